import PyProof.Rows.All
import Wide.All
import OpenK.AllK
import Wide.FinOn
import HandS.ForMost
import HandS.ForExc
import HandS.Wide
import HandS.IsInst
import HandS.Deep
import HandS.SortKw
import HandS.SortRule
import HandS.TupSets
import HandS.ExcIs
import HandS.TryMany
import HandS.StrMore
import HandS.FStr
import HandS.Strs
import HandS.SetFor
import HandS.ListItems
import HandS.SetKeys
import HandS.TupAny
import HandS.Defaults
import KE.DatumOrd
import HandS.SortInts
import HandS.Conv
import HandS.More
import KE.KDictKeyed
import HandS.Style
import HandS.Iter
import HandS.NoneIn
import OpenK.KOps
import KE.KCallOwn
import HandS.SlotsOwn
import HandS.RaiseMore
import PyProof.InstNe
import HandS.ExcOwn
import HandS.Replace
import HandS.MakeKw
import HandS.Zip
import KE.DataMinKey
import KE.KDictDisplayH
import KE.DataFind
import PyProof.SeqI3
import PyProof.ListRange
import HandS.RevRange
import PyProof.ZipIter
import PyProof.SumAny
import PyProof.Rows.SeqMore
import PySem.Challenge.RW_fewnotes_k85_whole_swapped_numbers_stay
set_option Elab.async false
set_option linter.all false
set_option maxRecDepth 100000
set_option maxHeartbeats 4000000
namespace Z
open PySem PySem.Spec PyProof.Rows L2
/-! ### computations by what they promise -/
structure Er where
  cls : Nat
  arg : PyData := .none

structure W (α : Type) where
  go : (α → Prop) → Prop
  mono0 : ∀ (Φ Φ' : α → Prop), (∀ a, Φ a → Φ' a) → go Φ → go Φ'
/-- no projection: two runs are compared by their parts first -/
def W.run {α : Type} (c : W α) (Φ : α → Prop) : Prop := c.go Φ
theorem W.mono {α : Type} (c : W α) (Φ Φ' : α → Prop) (h : ∀ a, Φ a → Φ' a) (q : c.run Φ) : c.run Φ' := c.mono0 Φ Φ' h q

namespace W
variable {α β γ : Type}
def ret (a : α) : W α := ⟨fun Φ => Φ a, fun _ _ h q => h a q⟩
def bind (c : W α) (f : α → W β) : W β := ⟨fun Φ => c.run (fun a => (f a).run Φ), fun Φ Φ' h q => c.mono _ _ (fun a z => (f a).mono _ _ h z) q⟩
def guard (p : Prop) (c : W α) : W α := ⟨fun Φ => p ∧ c.run Φ, fun _ _ h q => ⟨q.1, c.mono _ _ h q.2⟩⟩
def ite (b : Bool) (x y : W α) : W α := ⟨fun Φ => (b = true → x.run Φ) ∧ (b = false → y.run Φ), fun _ _ h q => ⟨fun e => x.mono _ _ h (q.1 e), fun e => y.mono _ _ h (q.2 e)⟩⟩
def opt (o : Option α) : W α := ⟨fun Φ => ∃ a, o = some a ∧ Φ a, fun _ _ h ⟨a, e, q⟩ => ⟨a, e, h a q⟩⟩
def bad : W α := ⟨fun _ => False, fun _ _ _ q => q⟩
end W

/-- an answer, or an error -/
inductive Ex (α : Type) where
  | ok (a : α) | er (e : Er)
/-- how a loop's turn ends -/
inductive Ctl (ρ S : Type) where
  | nx (s : S) | bk (s : S) | rt (r : ρ)

def CtlP {ρ S : Type} (N B : S → Prop) (Φ : ρ → Prop) : Ctl ρ S → Prop
  | .nx s => N s
  | .bk s => B s
  | .rt r => Φ r
theorem ctl_nx {ρ S : Type} {N B : S → Prop} {Φ : ρ → Prop} {s : S} (h : CtlP N B Φ (.nx s)) : N s := h
theorem ctl_bk {ρ S : Type} {N B : S → Prop} {Φ : ρ → Prop} {s : S} (h : CtlP N B Φ (.bk s)) : B s := h
theorem ctl_rt {ρ S : Type} {N B : S → Prop} {Φ : ρ → Prop} {r : ρ} (h : CtlP N B Φ (.rt r)) : Φ r := h
namespace W
variable {α β γ ρ S : Type}
def forL : List α → S → (α → S → W S) → W S
  | [], s, _ => ret s
  | x :: xs, s, f => bind (f x s) fun s' => forL xs s' f
/-- a loop that may be left -/
def forC : List α → S → (α → S → W (Ctl ρ S)) → W (Ctl ρ S)
  | [], s, _ => ret (.nx s)
  | x :: xs, s, f => bind (f x s) fun c => match c with
    | .nx s' => forC xs s' f
    | .bk s' => ret (.nx s')
    | .rt r => ret (.rt r)
def bind2 {α β γ : Type} (c : W (α × β)) (f : α → β → W γ) : W γ := ⟨fun Φ => c.run fun r => (f r.1 r.2).run Φ, fun Φ Φ' h q => c.mono _ _ (fun a z => (f a.1 a.2).mono _ _ h z) q⟩
def bindX {α β : Type} (c : W (Ex α)) (f : α → W (Ex β)) : W (Ex β) := bind c fun r => match r with
  | .ok a => f a
  | .er e => ret (.er e)
def after (c : Ctl ρ S) (k : S → W ρ) : W ρ := match c with
  | .nx s => k s
  | .bk s => k s
  | .rt r => ret r
/-- a while loop: a turn tells whether it is left (bk) -/
def whileN : Nat → S → (S → W (Ctl ρ S)) → W (Ctl ρ S)
  | 0, _, _ => bad
  | n + 1, s, f => bind (f s) fun c => match c with
    | .nx s' => whileN n s' f
    | .bk s' => ret (.nx s')
    | .rt r => ret (.rt r)
def whileL (s : S) (f : S → W (Ctl ρ S)) : W (Ctl ρ S) := ⟨fun Φ => ∃ n, (whileN n s f).run Φ, fun _ _ h ⟨n, q⟩ => ⟨n, (whileN n s f).mono _ _ h q⟩⟩
end W
/-! ### data -/
class Py (α : Type) where
  toPy : α → PyData
abbrev toPy {α : Type} [Py α] (a : α) : PyData := Py.toPy a
structure P3 (α β γ : Type) where
  a : α
  b : β
  c : γ
  deriving DecidableEq
structure P4 (α β γ δ : Type) where
  a : α
  b : β
  c : γ
  d : δ
  deriving DecidableEq
structure P5 (α β γ δ ε : Type) where
  a : α
  b : β
  c : γ
  d : δ
  e : ε
  deriving DecidableEq
/-- a tuple of things of one kind -/
structure Tp (α : Type) where
  l : List α
  deriving DecidableEq
instance : Py Int := ⟨.int⟩
instance : Py Bool := ⟨.bool⟩
instance : Py Str := ⟨.str⟩
instance : Py Unit := ⟨fun _ => .none⟩
instance : Py PyData := ⟨id⟩
instance {α : Type} [Py α] : Py (Option α) := ⟨fun o => match o with | none => .none | some a => toPy a⟩
instance {α : Type} [Py α] : Py (List α) := ⟨fun xs => .list (xs.map Py.toPy)⟩
instance {α : Type} [Py α] : Py (Tp α) := ⟨fun xs => .tuple (xs.l.map Py.toPy)⟩
instance {α β : Type} [Py α] [Py β] : Py (α × β) := ⟨fun p => .tuple [toPy p.1, toPy p.2]⟩
instance {α β γ : Type} [Py α] [Py β] [Py γ] : Py (P3 α β γ) := ⟨fun p => .tuple [toPy p.a, toPy p.b, toPy p.c]⟩
instance {α β γ δ : Type} [Py α] [Py β] [Py γ] [Py δ] : Py (P4 α β γ δ) := ⟨fun p => .tuple [toPy p.a, toPy p.b, toPy p.c, toPy p.d]⟩
instance {α β γ δ ε : Type} [Py α] [Py β] [Py γ] [Py δ] [Py ε] : Py (P5 α β γ δ ε) := ⟨fun p => .tuple [toPy p.a, toPy p.b, toPy p.c, toPy p.d, toPy p.e]⟩
/-! a value is data; each tuple is tracked -/
mutual
inductive Dq (K : PySem.W.Frag) (H : Hp) : V → PyData → Prop
  | non : Dq K H .non .none
  | bl (b : Bool) : Dq K H (.bl b) (.bool b)
  | int (i : Int) : Dq K H (.int i) (.int i)
  | str (x : Str) : Dq K H (.str x) (.str x)
  | lst {a : Addr} {vs : List V} {ds : List PyData} (hs : SqL K H a vs) (hd : DqAll K H vs ds) : Dq K H (.ref a) (.list ds)
  | tup {a : Addr} {vs : List V} {ds : List PyData} (hs : H a = some (.tup vs)) (hd : DqAll K H vs ds) : Dq K H (.ref a) (.tuple ds)
  /-- an instance of a class of the text that stands for good -/
  | ins {a dx C : Addr} {cn : Str} {ns : List Str} {vs : List V} {ds : List PyData} (hC : PySem.W.nsIn K mainGlobals cn = some (some (.ref C))) (hs : H a = some (.ins C dx (ns.zip vs))) (hd : DqAll K H vs ds) : Dq K H (.ref a) (.dict [(.str cn, .list (ns.map .str)), (.none, .tuple ds)])
inductive DqAll (K : PySem.W.Frag) (H : Hp) : List V → List PyData → Prop
  | nil : DqAll K H [] []
  | cons {v : V} {vs : List V} {d : PyData} {ds : List PyData} (h : Dq K H v d) (hs : DqAll K H vs ds) : DqAll K H (v :: vs) (d :: ds)
end
section
variable {K : PySem.W.Frag} {H H' : Hp}
theorem Same.sqT {a : Addr} {xs : List V} (e : Same H H') (h : SqT K H a xs) : SqT K H' a xs := by
  rcases h with (h | ⟨o, h⟩) | h
  · exact .inl (.inl (e _ _ h))
  · exact .inl (.inr ⟨o, e _ _ h⟩)
  · exact .inr h
mutual
theorem dp_mono (e : Same H H') : ∀ (d : PyData) (v : V), Dq K H v d → Dq K H' v d
  | _, _, .non => .non
  | _, _, .bl b => .bl b
  | _, _, .int i => .int i
  | _, _, .str x => .str x
  | _, _, .lst hs ha => .lst (e.seq hs) (dpAll_mono e _ _ ha)
  | _, _, .tup hs ha => .tup (e _ _ hs) (dpAll_mono e _ _ ha)
  | _, _, .ins hC hs ha => .ins hC (e _ _ hs) (dpAll_mono e _ _ ha)
theorem dpAll_mono (e : Same H H') : ∀ (ds : List PyData) (vs : List V), DqAll K H vs ds → DqAll K H' vs ds
  | _, _, .nil => .nil
  | _, _, .cons h1 h2 => .cons (dp_mono e _ _ h1) (dpAll_mono e _ _ h2)
end
mutual
theorem Dq.dp : ∀ (d : PyData) (v : V), d.canLay0 = true → Dq K H v d → Dp K H v d
  | _, _, _, .non => .non
  | _, _, _, .bl b => .bl b
  | _, _, _, .int i => .int i
  | _, _, _, .str x => .str x
  | _, _, g, .lst hs ha => .lst hs (DqAll.dp _ _ (by simpa [PyData.canLay0] using g) ha)
  | _, _, g, .tup hs ha => .tup (SqT.of hs) (DqAll.dp _ _ (by simpa [PyData.canLay0] using g) ha)
  | _, _, g, .ins _ _ _ => by simp [PyData.canLay0] at g
theorem DqAll.dp : ∀ (ds : List PyData) (vs : List V), PyData.canLayAll0 ds = true → DqAll K H vs ds → DpAll K H vs ds
  | _, _, _, .nil => .nil
  | d :: ds, _, g, .cons h1 h2 => by
    have g' : PyData.canLay0 d = true ∧ PyData.canLayAll0 ds = true := by simpa [PyData.canLayAll0] using g
    exact .cons (Dq.dp _ _ g'.1 h1) (DqAll.dp _ _ g'.2 h2)
end
theorem shp {d : PyData} (h : SeqAt.shaped d = true) : d.canLay0 = true := by
  unfold SeqAt.shaped at h
  exact (Bool.and_eq_true _ _ ▸ h).1
end
section
variable {K : PySem.W.Frag} {H H' : Hp} {α : Type} [Py α]
abbrev D (K : PySem.W.Frag) (H : Hp) (v : V) (x : α) : Prop := Dq K H v (toPy x)
abbrev DL (K : PySem.W.Frag) (H : Hp) (vs : List V) (xs : List α) : Prop := DqAll K H vs (xs.map Py.toPy)
theorem D.mo {v : V} {x : α} (h : D K H v x) (e : Same H H') : D K H' v x := dp_mono e _ _ h
theorem DL.mo {vs : List V} {xs : List α} (h : DL K H vs xs) (e : Same H H') : DL K H' vs xs := dpAll_mono e _ _ h
theorem d_int {v : V} {i : Int} (h : D K H v i) : v = .int i := by cases h; rfl
theorem d_bool {v : V} {i : Bool} (h : D K H v i) : v = .bl i := by cases h; rfl
theorem d_str {v : V} {i : Str} (h : D K H v i) : v = .str i := by cases h; rfl
theorem dpAll_len {vs : List V} : ∀ {ds : List PyData}, DqAll K H vs ds → vs.length = ds.length := by
  induction vs with
  | nil => intro ds h; cases h; rfl
  | cons v vs ih => intro ds h; cases h with | cons h1 h2 => simp [ih h2]
theorem DL.len {vs : List V} {xs : List α} (h : DL K H vs xs) : vs.length = xs.length := by
  have := dpAll_len h
  simpa using this
theorem dpAll_get {vs : List V} : ∀ {ds : List PyData} {i : Nat} {d : PyData}, DqAll K H vs ds → ds[i]? = some d → ∃ v, vs[i]? = some v ∧ Dq K H v d := by
  induction vs with
  | nil => intro ds i d h e; cases h; simp at e
  | cons v vs ih =>
    intro ds i d h e
    cases h with
    | cons h1 h2 =>
      cases i with
      | zero => simp at e; subst e; exact ⟨v, rfl, h1⟩
      | succ i => simpa using ih h2 (by simpa using e)
theorem DL.get {vs : List V} {xs : List α} {i : Nat} {x : α} (h : DL K H vs xs) (e : xs[i]? = some x) : ∃ v, vs[i]? = some v ∧ D K H v x :=
  dpAll_get h (by simp [e])
theorem DL.at {vs : List V} {xs : List α} {i : Int} {x : α} (h : DL K H vs xs) (e : atI xs i = some x) : ∃ v, atI vs i = some v ∧ D K H v x := by
  unfold atI at e ⊢
  rw [h.len]
  cases q : ixN xs.length i with
  | none => rw [q] at e; cases e
  | some j =>
    rw [q] at e
    exact h.get e
theorem dpAll_append {vs ws : List V} {ds es : List PyData} (h : DqAll K H vs ds) (h' : DqAll K H ws es) : DqAll K H (vs ++ ws) (ds ++ es) := by
  induction vs generalizing ds with
  | nil => cases h; exact h'
  | cons v vs ih => cases h with | cons h1 h2 => exact .cons h1 (ih h2)
theorem DL.append {vs ws : List V} {xs ys : List α} (h : DL K H vs xs) (h' : DL K H ws ys) : DL K H (vs ++ ws) (xs ++ ys) := by
  unfold DL; rw [List.map_append]; exact dpAll_append h h'
theorem DL.push {vs : List V} {xs : List α} {v : V} {x : α} (h : DL K H vs xs) (h' : D K H v x) : DL K H (vs ++ [v]) (xs ++ [x]) :=
  h.append (.cons h' .nil)
theorem dpAll_set {vs : List V} {ds : List PyData} {v : V} {d : PyData} (h : DqAll K H vs ds) (h' : Dq K H v d) (j : Nat) : DqAll K H (vs.set j v) (ds.set j d) := by
  induction vs generalizing ds j with
  | nil => cases h; exact .nil
  | cons u vs ih =>
    cases h with
    | cons h1 h2 =>
      cases j with
      | zero => exact .cons h' h2
      | succ j => exact .cons h1 (ih h2 j)
theorem DL.set {vs : List V} {xs : List α} {v : V} {x : α} (h : DL K H vs xs) (h' : D K H v x) (j : Nat) : DL K H (vs.set j v) (xs.set j x) := by
  unfold DL; rw [List.map_set]; exact dpAll_set h h' j
theorem dpAll_take {vs : List V} {ds : List PyData} (h : DqAll K H vs ds) (n : Nat) : DqAll K H (vs.take n) (ds.take n) := by
  induction n generalizing vs ds with
  | zero => exact .nil
  | succ n ih => cases h with | nil => exact .nil | cons h1 h2 => exact .cons h1 (ih h2)
theorem dpAll_drop {vs : List V} {ds : List PyData} (h : DqAll K H vs ds) (n : Nat) : DqAll K H (vs.drop n) (ds.drop n) := by
  induction n generalizing vs ds with
  | zero => exact h
  | succ n ih => cases h with | nil => exact .nil | cons h1 h2 => exact ih h2
def cut {α : Type} (xs : List α) (lo hi : Option Int) : List α := (xs.drop (HT.sIx xs.length 0 lo)).take (HT.sIx xs.length xs.length hi - HT.sIx xs.length 0 lo)
theorem DL.cut {vs : List V} {xs : List α} (h : DL K H vs xs) (lo hi : Option Int) : DL K H (cutV vs lo hi) (Z.cut xs lo hi) := by
  unfold DL cutV Z.cut
  rw [List.map_take, List.map_drop, h.len]
  exact dpAll_take (dpAll_drop h _) _
theorem dl_ints {vs : List V} : ∀ {xs : List Int}, DL K H vs xs → vs = xs.map V.int := by
  induction vs with
  | nil => intro xs h; cases xs with | nil => rfl | cons x xs => cases h
  | cons v vs ih =>
    intro xs h
    cases xs with
    | nil => cases h
    | cons x xs => cases h with | cons h1 h2 => rw [ih h2, d_int h1]; rfl
theorem dl_bools {vs : List V} : ∀ {xs : List Bool}, DL K H vs xs → vs = xs.map V.bl := by
  induction vs with
  | nil => intro xs h; cases xs with | nil => rfl | cons x xs => cases h
  | cons v vs ih =>
    intro xs h
    cases xs with
    | nil => cases h
    | cons x xs => cases h with | cons h1 h2 => rw [ih h2, d_bool h1]; rfl
theorem ints_dl : ∀ {xs : List Int}, DL K H (xs.map V.int) xs
  | [] => .nil
  | x :: xs => .cons (.int x) ints_dl
end

/-! ### the state: what stands for good (Ho), what may be written (rs) -/
/-- no tuple: tuples never change, so that none is written -/
def NotTup : HO → Prop
  | .tup _ => False
  | _ => True
structure Zs (rs : List (Addr × HO)) (H Ho : Hp) : Prop where
  le : Same Ho H
  rt : ∀ r ∈ rs, H r.1 = some r.2 ∧ Ho r.1 = none
  nd : (rs.map (·.1)).Nodup
  nt : ∀ r ∈ rs, NotTup r.2

section
variable {K : PySem.W.Frag} {H Ho H' Ho' : Hp} {rs : List (Addr × HO)} {p q : Addr} {o o' : HO}
theorem Zs.free (z : Zs rs H Ho) (h : H q = none) : Ho q = none := z.le.free h
theorem Zs.nin (z : Zs rs H Ho) (h : H q = none) : ∀ r ∈ rs, r.1 ≠ q := fun r hr e => by
  have := (z.rt r hr).1
  rw [e, h] at this
  cases this
/-- a new object that stays -/
theorem Zs.alloc (z : Zs rs H Ho) (h : H q = none) : Zs rs (upd H q o) (upd Ho q o) :=
  ⟨fun b x e => by
    by_cases hb : b = q
    · subst hb; rw [upd_same] at e ⊢; exact e
    · rw [upd_ne hb] at e ⊢; exact z.le b x e,
   fun r hr => by
    have ne := z.nin h r hr
    rw [upd_ne ne, upd_ne ne]; exact z.rt r hr, z.nd, z.nt⟩
theorem Same.new (h : Ho q = none) : Same Ho (upd Ho q o) := fun b x e => by
  rw [upd_ne (ne_of_none e h)]; exact e
/-- a new object that may be written -/
theorem Zs.root (z : Zs rs H Ho) (h : H q = none) (hn : NotTup o := by exact trivial) : Zs ((q, o) :: rs) (upd H q o) Ho :=
  ⟨fun b x e => by
    rw [upd_ne (ne_of_none (z.le b x e) h)]; exact z.le b x e,
   fun r hr => by
    rcases List.mem_cons.mp hr with e | hr
    · subst e; exact ⟨upd_same, z.free h⟩
    · rw [upd_ne (z.nin h r hr)]; exact z.rt r hr,
   List.nodup_cons.mpr ⟨fun hm => by
    obtain ⟨r, hr, e⟩ := List.mem_map.mp hm
    exact z.nin h r hr e, z.nd⟩, fun r hr => by
    rcases List.mem_cons.mp hr with e | hr
    · subst e; exact hn
    · exact z.nt r hr⟩
theorem Zs.put (z : Zs ((p, o) :: rs) H Ho) (hn : NotTup o' := by exact trivial) : Zs ((p, o') :: rs) (upd H p o') Ho :=
  ⟨fun b x e => by
    have np : b ≠ p := fun e' => by subst e'; rw [(z.rt _ List.mem_cons_self).2] at e; cases e
    rw [upd_ne np]; exact z.le b x e,
   fun r hr => by
    rcases List.mem_cons.mp hr with e | hr
    · subst e; exact ⟨upd_same, (z.rt _ List.mem_cons_self).2⟩
    · have np : r.1 ≠ p := fun e' => by
        have := (List.nodup_cons.mp z.nd).1
        exact this (List.mem_map.mpr ⟨r, hr, e'⟩)
      rw [upd_ne np]; exact z.rt r (List.mem_cons_of_mem _ hr), z.nd, fun r hr => by
    rcases List.mem_cons.mp hr with e | hr
    · subst e; exact hn
    · exact z.nt r (List.mem_cons_of_mem _ hr)⟩
theorem Zs.tail (z : Zs ((p, o) :: rs) H Ho) : Zs rs H Ho :=
  ⟨z.le, fun r hr => z.rt r (List.mem_cons_of_mem _ hr), (List.nodup_cons.mp z.nd).2, fun r hr => z.nt r (List.mem_cons_of_mem _ hr)⟩
theorem Zs.head (z : Zs ((p, o) :: rs) H Ho) : H p = some o := (z.rt _ List.mem_cons_self).1
theorem Zs.headN (z : Zs ((p, o) :: rs) H Ho) : Ho p = none := (z.rt _ List.mem_cons_self).2
/-- what may be written stands for good from now on -/
theorem Zs.freeze (z : Zs ((p, o) :: rs) H Ho) : Zs rs H (upd Ho p o) :=
  ⟨fun b x e => by
    by_cases hb : b = p
    · subst hb; rw [upd_same] at e; rw [← e]; exact z.head
    · rw [upd_ne hb] at e; exact z.le b x e,
   fun r hr => by
    have np : r.1 ≠ p := fun e' => (List.nodup_cons.mp z.nd).1 (List.mem_map.mpr ⟨r, hr, e'⟩)
    rw [upd_ne np]; exact z.rt r (List.mem_cons_of_mem _ hr), (List.nodup_cons.mp z.nd).2, fun r hr => z.nt r (List.mem_cons_of_mem _ hr)⟩
theorem Zs.perm {rs' : List (Addr × HO)} (z : Zs rs H Ho) (h : rs.Perm rs') : Zs rs' H Ho :=
  ⟨z.le, fun r hr => z.rt r (h.mem_iff.mpr hr), (h.map _).nodup_iff.mp z.nd, fun r hr => z.nt r (h.mem_iff.mpr hr)⟩
theorem perm1 {α : Type} {a b : α} {l : List α} : (a :: b :: l).Perm (b :: a :: l) := List.Perm.swap b a l
theorem perm2 {α : Type} {a b c : α} {l : List α} : (a :: b :: c :: l).Perm (c :: a :: b :: l) :=
  (List.Perm.cons a (List.Perm.swap c b l)).trans (List.Perm.swap c a (b :: l))
theorem perm2' {α : Type} {a b c : α} {l : List α} : (c :: a :: b :: l).Perm (a :: b :: c :: l) := perm2.symm
theorem perm3 {α : Type} {a b c d : α} {l : List α} : (a :: b :: c :: d :: l).Perm (d :: a :: b :: c :: l) :=
  (List.Perm.cons a perm2).trans (List.Perm.swap d a (b :: c :: l))
theorem perm3' {α : Type} {a b c d : α} {l : List α} : (d :: a :: b :: c :: l).Perm (a :: b :: c :: d :: l) := perm3.symm
theorem Zs.sw1 {a b : Addr × HO} (z : Zs (a :: b :: rs) H Ho) : Zs (b :: a :: rs) H Ho := z.perm perm1
theorem Zs.sw2 {a b c : Addr × HO} (z : Zs (a :: b :: c :: rs) H Ho) : Zs (c :: a :: b :: rs) H Ho := z.perm perm2
theorem Zs.sw2' {a b c : Addr × HO} (z : Zs (c :: a :: b :: rs) H Ho) : Zs (a :: b :: c :: rs) H Ho := z.perm perm2'
theorem Zs.sw3 {a b c d : Addr × HO} (z : Zs (a :: b :: c :: d :: rs) H Ho) : Zs (d :: a :: b :: c :: rs) H Ho := z.perm perm3
theorem Zs.sw3' {a b c d : Addr × HO} (z : Zs (d :: a :: b :: c :: rs) H Ho) : Zs (a :: b :: c :: d :: rs) H Ho := z.perm perm3'
end

/-- a list that is read -/
def LV {α : Type} [Py α] (K : PySem.W.Frag) (rs : List (Addr × HO)) (Ho : Hp) (v : V) (xs : List α) : Prop :=
  ∃ p vs, v = .ref p ∧ DL K Ho vs xs ∧ (SqL K Ho p vs ∨ (p, HO.lst vs) ∈ rs)
section
variable {K : PySem.W.Frag} {H Ho H' Ho' : Hp} {rs rs' : List (Addr × HO)} {α : Type} [Py α] {v : V} {xs : List α}
theorem LV.mo (h : LV K rs Ho v xs) (e : Same Ho Ho') : LV K rs Ho' v xs := by
  obtain ⟨p, vs, rfl, d, s⟩ := h
  exact ⟨p, vs, rfl, DL.mo d e, s.imp (fun s => e.seq s) id⟩
theorem LV.sub (h : LV K rs Ho v xs) (e : ∀ r ∈ rs, r ∈ rs') : LV K rs' Ho v xs := by
  obtain ⟨p, vs, rfl, d, s⟩ := h
  exact ⟨p, vs, rfl, d, s.imp id (e _)⟩
theorem LV.cons {r : Addr × HO} (h : LV K rs Ho v xs) : LV K (r :: rs) Ho v xs := h.sub fun _ m => List.mem_cons_of_mem _ m
theorem LV.of (h : D K Ho v xs) : LV K rs Ho v xs := by
  cases h with
  | lst hs ha => exact ⟨_, _, rfl, ha, .inl hs⟩
theorem LV.rd (h : LV K rs Ho v xs) (z : Zs rs H Ho) : ∃ p vs, v = .ref p ∧ DL K Ho vs xs ∧ SqL K H p vs := by
  obtain ⟨p, vs, rfl, d, s⟩ := h
  refine ⟨p, vs, rfl, d, ?_⟩
  rcases s with s | s
  · exact z.le.seq s
  · exact SqL.of (z.rt _ s).1
theorem LV.dp (h : LV K rs Ho v xs) (z : Zs rs H Ho) : D K H v xs := by
  obtain ⟨p, vs, rfl, d, s⟩ := h.rd z
  exact .lst s (DL.mo d z.le)
theorem lv_root {p : Addr} {vs : List V} (d : DL K Ho vs xs) (m : (p, HO.lst vs) ∈ rs) : LV K rs Ho (.ref p) xs := ⟨p, vs, rfl, d, .inr m⟩
end


/-! ### more rules of the machine -/
section
variable {X : Cx}
def rCatS (K : PySem.W.Frag) : R2 := fun x y H Q => ∃ l b xs zs, x = .ref l ∧ y = .ref b ∧ SqL K H l xs ∧ SqL K H b zs ∧ xs.length + zs.length ≤ sizeLine ∧ ∀ p, H p = none → Q (.ref p) (upd H p (.lst (xs ++ zs)))
theorem op_catS : OpR X (binaryOp .Add) (rCatS X.K) := by
  intro pins s σ H x y v u Q I rx ry h
  obtain ⟨l, b, xs, zs, rfl, rfl, hH, hB, hz, q⟩ := h
  cases rx
  cases ry
  obtain ⟨its, r, pl, _⟩ := I.list hH
  obtain ⟨its2, r2, pl2, _⟩ := I.list hB
  have hl := r.length
  have hl2 := r2.length
  obtain ⟨⟨cls, dd, data, sl⟩, ho, hc, n, hd⟩ := pl.isList
  obtain ⟨⟨cls2, dd2, data2, sl2⟩, ho2, hc2, n2, hd2⟩ := pl2.isList
  simp only at hc hd hc2 hd2
  subst hc hd hc2 hd2
  have ea : its.toArray ++ its2.toArray = (its ++ its2).toArray := by simp
  refine concat_meets ⟨_, ho, rfl⟩ ⟨_, ho2, rfl⟩ noFill_list_add seq_list_add PySem.F.slot_list_add PySem.F.entry_list_add (PySem.F.args_list_add_2 _ _) (list_addW l b its.toArray its2.toArray n n2 dd dd2 sl sl2 (by simp only [List.size_toArray]; omega)) ⟨ho, ho2, ?_⟩
  rw [ea]
  exact ⟨.ref _, _, I.lnew (t' := s.toks) (r.append r2) (by rw [List.length_append]; omega), rfl, q _ I.fresh⟩
/-- xs[i] as the old value of xs[i] op= e -/
theorem get_list : PGet X (rIxL X.K) := by
  intro pins s σ H o i ov iv Q I ro ri h
  obtain ⟨p, xs, i, z, rfl, rfl, hq, he, q⟩ := h
  cases ro
  obtain ⟨t, rfl⟩ := ri
  obtain ⟨its, r, pl, hz⟩ := I.list hq
  obtain ⟨j, h1, h2, h3, h4, h5⟩ := atI_get he
  obtain ⟨w, ew, rw'⟩ := r.get h2
  have hl := r.length
  have hn := line63
  have fin : EP X pins σ Q w s := ⟨z, H, I, rw', q⟩
  by_cases h0 : 0 ≤ i
  · have hj : i.toNat = j := by
      rw [seqIndex_of h0 h5] at h1
      exact Option.some.inj h1
    exact wpAny_getItem_list pl.isList h0 (by omega) (by rw [hj]; simpa using ew) fin
  · have hj : (i + (its.toArray.size : Int)).toNat = j := by
      rw [seqIndex_neg (by omega) h4] at h1
      rw [List.size_toArray, ← hl]
      exact Option.some.inj h1
    exact wpAny_getItem_list_neg pl.isList (by omega) (by rw [List.size_toArray] <;> omega) (by omega) (by rw [hj]; simpa using ew) fin
end
end Z

/-! # Y1: readings step by step -/
namespace Z
open PySem PySem.Spec PyProof.Rows L2

/-! ### roots -/
theorem Zs.putI {rs : List (Addr × HO)} {H Ho : Hp} {n : Nat} {p : Addr} {o o' : HO} (z : Zs rs H Ho) (h : rs[n]? = some (p, o)) (hn : NotTup o' := by exact trivial) : Zs (rs.set n (p, o')) (upd H p o') Ho := by
  have hp := z.rt (p, o) (List.mem_of_getElem? h)
  have idx : ∀ m r, rs[m]? = some r → r.1 = p → m = n := fun m r hm e => by
    have h1 : (rs.map (·.1))[m]? = some p := by rw [List.getElem?_map, hm]; exact congrArg some e
    have h2 : (rs.map (·.1))[n]? = some p := by rw [List.getElem?_map, h]; rfl
    exact nd_ix z.nd h1 h2
  refine ⟨fun b x e => ?_, fun r hr => ?_, ?_, fun r hr => ?_⟩
  · have np : b ≠ p := fun e' => by subst e'; rw [hp.2] at e; cases e
    rw [upd_ne np]; exact z.le b x e
  · obtain ⟨m, hm⟩ := List.mem_iff_getElem?.mp hr
    rw [List.getElem?_set] at hm
    by_cases c : n = m
    · rw [if_pos c] at hm
      split at hm
      · cases hm; exact ⟨upd_same, hp.2⟩
      · cases hm
    · rw [if_neg c] at hm
      have np : r.1 ≠ p := fun e => c (idx m r hm e).symm
      rw [upd_ne np]; exact z.rt r (List.mem_of_getElem? hm)
  · have e : (rs.set n (p, o')).map (·.1) = rs.map (·.1) := by
      rw [List.map_set]
      apply List.ext_getElem?
      intro m
      rw [List.getElem?_set]
      split
      · rename_i c
        subst c
        rw [List.getElem?_map, h]
        have hl : n < (rs.map (·.1)).length := by rw [List.length_map]; exact (List.getElem?_eq_some_iff.mp h).1
        rw [if_pos hl]; rfl
      · rfl
    rw [e]; exact z.nd
  · rcases List.mem_or_eq_of_mem_set hr with q | q
    · exact z.nt r q
    · subst q; exact hn
theorem Zs.sub {rs rs' : List (Addr × HO)} {H Ho : Hp} (z : Zs rs H Ho) (h : rs'.Sublist rs) : Zs rs' H Ho :=
  ⟨z.le, fun r hr => z.rt r (h.subset hr), (h.map _).nodup z.nd, fun r hr => z.nt r (h.subset hr)⟩
/-- some of the roots, in any order -/
theorem Zs.re {rs rs' : List (Addr × HO)} {H Ho : Hp} (l amb : List (Addr × HO)) (is : List Nat) (z : Zs rs H Ho) (h1 : rs = l ++ amb := by rfl) (h2 : rs' = (is.filterMap fun i => l[i]?) ++ amb := by rfl) (hn : is.Nodup := by decide) : Zs rs' H Ho := by
  subst h1 h2
  have sub : ∀ r ∈ (is.filterMap fun i => l[i]?), r ∈ l := fun r hr => by
    obtain ⟨i, _, e⟩ := List.mem_filterMap.mp hr
    exact List.mem_of_getElem? e
  have sub2 : ∀ r ∈ (is.filterMap fun i => l[i]?) ++ amb, r ∈ l ++ amb := fun r hr => by
    rcases List.mem_append.mp hr with h | h
    · exact List.mem_append.mpr (.inl (sub r h))
    · exact List.mem_append.mpr (.inr h)
  refine ⟨z.le, fun r hr => z.rt r (sub2 r hr), ?_, fun r hr => z.nt r (sub2 r hr)⟩
  · have nd := z.nd
    rw [List.map_append, List.nodup_append] at nd ⊢
    refine ⟨?_, nd.2.1, fun a ha b hb => ?_⟩
    · rw [List.map_filterMap]
      refine List.Pairwise.filterMap _ (fun i j hij a ha b hb e => ?_) hn
      subst e
      simp only [Option.map_eq_some_iff] at ha hb
      obtain ⟨r, e1, e2⟩ := ha
      obtain ⟨q, e3, e4⟩ := hb
      refine hij (nd_ix nd.1 (show (l.map (·.1))[i]? = some a from ?_) (show (l.map (·.1))[j]? = some a from ?_))
      · rw [List.getElem?_map, e1]; exact congrArg some e2
      · rw [List.getElem?_map, e3]; exact congrArg some e4
    · obtain ⟨r, hr, rfl⟩ := List.mem_map.mp ha
      exact nd.2.2 _ (List.mem_map.mpr ⟨r, sub r hr, rfl⟩) b hb
theorem rt_mem {rs : List (Addr × HO)} {n : Nat} {a : Addr × HO} (h : rs[n]? = some a) : a ∈ rs := List.mem_of_getElem? h
def subN {rs : List (Addr × HO)} (n : Nat) {xs : List (Addr × HO)} (h : xs.drop n = rs) : ∀ r ∈ rs, r ∈ xs := fun r m => List.mem_of_mem_drop (i := n) (h ▸ m)

section
variable {K : PySem.W.Frag} {rs r0 : List (Addr × HO)} {σ : L2.St} {H Ho : Hp} {ta tb tc te : TE} {tt tu : TT} {ts : TA} {Q : VK} {QB : Bool → Hp → Prop} {u t1 t2 : TS} {D : Ends} {v w : V} {i : Nat} {α β γ : Type} [Py α] [Py β] {Φ : γ → Prop} {p : Addr}
theorem frz {ws : List V} {xs : List α} (z : Zs ((p, .lst ws) :: rs) H Ho) (d : DL K Ho ws xs) : ∃ Ho', Same Ho Ho' ∧ Zs rs H Ho' ∧ Z.D K Ho' (.ref p) xs := by
  have e : Same Ho (upd Ho p (.lst ws)) := Same.new z.headN
  exact ⟨_, e, z.freeze, .lst (SqL.of upd_same) (DL.mo d e)⟩
/-- a new list that stands for good at once -/
theorem frzK {Q' : Addr → Hp → Prop} {H' : Hp} {xs : List α} (k : ∀ p Ho', Same Ho Ho' → Zs rs H' Ho' → Z.D K Ho' (.ref p) xs → Q' p H') : ∀ p ws, Zs ((p, .lst ws) :: rs) H' Ho → DL K Ho ws xs → Q' p H' := fun p ws z d => by
  obtain ⟨Ho', e, z', d'⟩ := frz z d
  exact k p Ho' e z' d'
/-! ### expressions -/
theorem y_var (h : σ[i]? = some (some v)) (k : Q v H) : tVar i σ H Q := ⟨v, h, k⟩
theorem y_c (k : Q v H) : tC v σ H Q := k
theorem y_op {r : R2} (k : ta σ H fun x H1 => tb σ H1 fun y H2 => r x y H2 Q) : tOp r ta tb σ H Q := k
theorem y_un {r : V → Hp → VK → Prop} (k : ta σ H fun x H1 => r x H1 Q) : tUn r ta σ H Q := k
theorem y_test (k : te σ H fun x H1 => ∃ c, x = .bl c ∧ QB c H1) : tTest te σ H QB := k
theorem y_tB (k : te σ H fun x H1 => ∃ c, x = .bl c ∧ QB c H1) : tB te σ H QB := k
theorem y_bl {b : Bool} (k : QB b H) : ∃ c, V.bl b = .bl c ∧ QB c H := ⟨b, rfl, k⟩
theorem y_not (k : tt σ H fun c H1 => QB (!c) H1) : tNot tt σ H QB := k
theorem y_notV (k : te σ H fun x H1 => ∃ c, x = .bl c ∧ Q (.bl (!c)) H1) : tNotV te σ H Q := k
theorem y_andV (k : ta σ H fun x H1 => ∃ c, x = .bl c ∧ if c = true then tb σ H1 Q else Q (.bl false) H1) : tAndV ta tb σ H Q := k
theorem y_orV (k : ta σ H fun x H1 => ∃ c, x = .bl c ∧ if c = true then Q (.bl true) H1 else tb σ H1 Q) : tOrV ta tb σ H Q := k
theorem y_and (k : tt σ H fun c H1 => if c = true then tu σ H1 QB else QB false H1) : tAnd tt tu σ H QB := k
theorem y_or (k : tt σ H fun c H1 => if c = true then QB true H1 else tu σ H1 QB) : tOr tt tu σ H QB := k
theorem y_if (k : tt σ H fun c H1 => if c = true then ta σ H1 Q else tb σ H1 Q) : tIf tt ta tb σ H Q := k
theorem y_chain {r r' : R2} (k : ta σ H fun x H1 => tb σ H1 fun y H2 => r x y H2 fun z H3 => ∃ c, z = .bl c ∧ (if c = true then tc σ H3 fun w' H4 => r' y w' H4 Q else Q (.bl false) H3)) : tChain r r' ta tb tc σ H Q := k
theorem y_cb {r : List V → Hp → VK → Prop} (k : ts σ H fun vs H1 => r vs H1 Q) : tCB r ts σ H Q := k
theorem y_nil {QL : List V → Hp → Prop} (k : QL [] H) : tNil σ H QL := k
theorem y_cons {QL : List V → Hp → Prop} (k : ta σ H fun x H1 => ts σ H1 fun xs H2 => QL (x :: xs) H2) : tCons ta ts σ H QL := k
theorem y_lst (k : ts σ H fun xs H1 => xs.length ≤ sizeLine ∧ ∀ p, H1 p = none → Q (.ref p) (upd H1 p (.lst xs))) : tLst ts σ H Q := k
theorem y_tup (k : ts σ H fun xs H1 => xs.length ≤ sizeLine ∧ ∀ p, H1 p = none → Q (.ref p) (upd H1 p (.tup xs))) : tTup ts σ H Q := k
theorem y_sl {r : V → Option Int → Option Int → Hp → VK → Prop} {tl th : TO} (k : te σ H fun x H1 => tl σ H1 fun l H2 => th σ H2 fun u H3 => r x l u H3 Q) : tSl r te tl th σ H Q := k
theorem y_noPart {QO : Option Int → Hp → Prop} (k : QO none H) : tNoPart σ H QO := k
theorem y_part {QO : Option Int → Hp → Prop} (k : te σ H fun x H1 => ∃ i, x = .int i ∧ QO (some i) H1) : tPart te σ H QO := k
theorem y_int {QO : Int → Hp → Prop} {i : Int} (k : QO i H) : ∃ j, V.int i = .int j ∧ QO j H := ⟨i, rfl, k⟩
theorem y_call {sp : Sp} {E : XK} (k : ts σ H fun vs H1 => sp (vs ++ []) H1 Q E) : tCall sp [] E ts σ H Q := k
theorem y_bm {T : String} {r : V → List V → Hp → VK → Prop} (k : te σ H fun x H1 => tyV K T x H1 ∧ ts σ H1 fun xs H2 => r x xs H2 Q) : tBM K T r te ts σ H Q := k
theorem y_bm0 {T : String} {r : V → List V → Hp → VK → Prop} (k : te σ H fun x H1 => tyV K T x H1 ∧ r x [] H1 Q) : tBM0 K T r te σ H Q := k
/-! ### values -/
theorem y_i0 {g : Int → Int → V} {a b : Int} (k : Q (g a b) H) : rI0 g (.int a) (.int b) H Q := ⟨a, b, rfl, rfl, k⟩
theorem y_ig {C : Int → Int → Prop} {g : Int → Int → V} {a b : Int} (c : C a b) (k : Q (g a b) H) : rI C g (.int a) (.int b) H Q := ⟨a, b, rfl, rfl, c, k⟩
theorem y_neg {a : Int} (k : Q (.int (-a)) H) : rU (fun i => .int (-i)) (.int a) H Q := ⟨a, rfl, k⟩
theorem y_eqi {a b : Int} (k : Q (.bl (decide (a = b))) H) : rEq (.int a) (.int b) H Q := ⟨rfl, by
  have e : decide (V.int a = V.int b) = decide (a = b) := by simp
  rw [e]; exact k⟩
theorem y_nei {a b : Int} (k : Q (.bl (!decide (a = b))) H) : rNe (.int a) (.int b) H Q := ⟨rfl, by
  have e : decide (V.int a = V.int b) = decide (a = b) := by simp
  rw [e]; exact k⟩
theorem y_eqb {a b : Bool} (k : Q (.bl (decide (a = b))) H) : rEq (.bl a) (.bl b) H Q := ⟨rfl, by
  have e : decide (V.bl a = V.bl b) = decide (a = b) := by simp
  rw [e]; exact k⟩
theorem y_neb {a b : Bool} (k : Q (.bl (!decide (a = b))) H) : rNe (.bl a) (.bl b) H Q := ⟨rfl, by
  have e : decide (V.bl a = V.bl b) = decide (a = b) := by simp
  rw [e]; exact k⟩
theorem y_eqs {a b : Str} (k : Q (.bl (decide (a = b))) H) : rEq (.str a) (.str b) H Q := ⟨rfl, by
  have e : decide (V.str a = V.str b) = decide (a = b) := by simp
  rw [e]; exact k⟩
theorem y_nes {a b : Str} (k : Q (.bl (!decide (a = b))) H) : rNe (.str a) (.str b) H Q := ⟨rfl, by
  have e : decide (V.str a = V.str b) = decide (a = b) := by simp
  rw [e]; exact k⟩
def eqD {β γ : Type} [Py β] [Py γ] (x : β) (y : γ) : Bool := PyData.eqv (toPy x) (toPy y)
def okD {β : Type} [Py β] (x : β) : Prop := SeqAt.shaped (toPy x) = true
theorem y_eqD {x : α} {y : β} (d1 : Z.D K H v x) (d2 : Z.D K H w y) (hg : okD x ∧ okD y) (k : Q (.bl (eqD x y)) H) : rEqD K v w H Q := ⟨_, _, Dq.dp _ _ (shp hg.1) d1, Dq.dp _ _ (shp hg.2) d2, hg.1, hg.2, k⟩
theorem y_neD {x : α} {y : β} (d1 : Z.D K H v x) (d2 : Z.D K H w y) (hg : okD x ∧ okD y) (k : Q (.bl (!eqD x y)) H) : rNeD K v w H Q := ⟨_, _, Dq.dp _ _ (shp hg.1) d1, Dq.dp _ _ (shp hg.2) d2, hg.1, hg.2, k⟩
def inD (x : α) (ys : List β) : Bool := ys.any fun y => eqD y x
theorem any_map {x : α} : ∀ {ys : List β}, ((ys.map Py.toPy).any fun z => PyData.eqv z (toPy x)) = inD x ys
  | [] => rfl
  | y :: ys => by
    show (_ || _) = (_ || _)
    rw [any_map]; rfl
theorem y_inD {x : α} {ys : List β} (d1 : Z.D K H v x) (d2 : Z.D K H w ys) (hg : okD x ∧ okD ys) (k : Q (.bl (inD x ys)) H) : rInD K v w H Q := ⟨_, _, Dq.dp _ _ (shp hg.1) d1, Dq.dp _ _ (shp hg.2) d2, hg.1, hg.2, by
  have e := any_map (x := x) (ys := ys)
  exact e ▸ k⟩
theorem y_notInD {x : α} {ys : List β} (d1 : Z.D K H v x) (d2 : Z.D K H w ys) (hg : okD x ∧ okD ys) (k : Q (.bl (!inD x ys)) H) : rNotInD K v w H Q := ⟨_, _, Dq.dp _ _ (shp hg.1) d1, Dq.dp _ _ (shp hg.2) d2, hg.1, hg.2, by
  have e := any_map (x := x) (ys := ys)
  exact e ▸ k⟩
theorem dec_non {x : Option β} (d : Z.D K H v x) (hg : ∀ b : β, x = some b → toPy b ≠ .none) : decide (v = .non) = x.isNone := by
  cases x with
  | none => cases d; rfl
  | some b =>
    rw [decide_eq_false]
    · rfl
    · intro ev
      subst ev
      have d3 : Dq K H V.non (toPy b) := d
      have nb := hg b rfl
      generalize toPy b = pb at d3 nb
      cases d3
      exact nb rfl
theorem y_isN {x : Option β} (d : Z.D K H v x) (hg : ∀ b : β, x = some b → toPy b ≠ .none) (k : Q (.bl x.isNone) H) : (fun x y H Q => y = .non ∧ Q (.bl (decide (x = .non))) H : R2) v .non H Q := ⟨rfl, by rw [dec_non d hg]; exact k⟩
theorem y_notN {x : Option β} (d : Z.D K H v x) (hg : ∀ b : β, x = some b → toPy b ≠ .none) (k : Q (.bl x.isSome) H) : (fun x y H Q => y = .non ∧ Q (.bl (!decide (x = .non))) H : R2) v .non H Q := ⟨rfl, by
  rw [dec_non d hg, show (!x.isNone) = x.isSome by cases x <;> rfl]; exact k⟩
/-! lists read -/
theorem y_ixL {xs : List α} {i : Int} {f : α → W γ} (d : LV K rs Ho v xs) (z : Zs rs H Ho) (hw : (W.bind (W.opt (atI xs i)) f).run Φ) (k : ∀ t w, Z.D K Ho w t → (f t).run Φ → Q w H) : rIxL K v (.int i) H Q := by
  obtain ⟨p, vs, rfl, d, s⟩ := d.rd z
  obtain ⟨a, ea, hw⟩ := hw
  obtain ⟨w, ew, dw⟩ := DL.at d ea
  exact ⟨p, vs, i, w, rfl, rfl, s, ew, k a w dw hw⟩
theorem y_ixT {x : α} {y : β} {i : Int} (d : Z.D K Ho v x) (z : Zs rs H Ho) (hj : ∃ ds, toPy x = .tuple ds ∧ atI ds i = some (toPy y)) (k : ∀ w, Z.D K Ho w y → Q w H) : rIxT K v (.int i) H Q := by
  obtain ⟨ds, e1, e3⟩ := hj
  have d : Dq K Ho v (toPy x) := d
  rw [e1] at d
  cases d with
  | tup hs ha =>
    have hl := dpAll_len ha
    unfold atI at e3
    rw [← hl] at e3
    cases q : ixN _ i with
    | none => rw [q] at e3; cases e3
    | some j =>
      rw [q] at e3
      obtain ⟨w, ew, dw⟩ := dpAll_get ha e3
      refine ⟨_, _, _, w, rfl, rfl, SqT.of (z.le _ _ hs), ?_, k w dw⟩
      unfold atI
      rw [q]
      exact ew
theorem y_ixTp {xs : Tp α} {i : Int} {f : α → W γ} (d : Z.D K Ho v xs) (z : Zs rs H Ho) (hw : (W.bind (W.opt (atI xs.l i)) f).run Φ) (k : ∀ t w, Z.D K Ho w t → (f t).run Φ → Q w H) : rIxT K v (.int i) H Q := by
  obtain ⟨a, ea, hw⟩ := hw
  cases d with
  | tup hs ha =>
    obtain ⟨w, ew, dw⟩ := DL.at (K := K) (H := Ho) ha ea
    exact ⟨_, _, i, w, rfl, rfl, SqT.of (z.le _ _ hs), ew, k a w dw hw⟩
theorem y_slL {xs : List α} {l h : Option Int} (d : LV K rs Ho v xs) (z : Zs rs H Ho) (k : ∀ H' p ws, Zs ((p, .lst ws) :: rs) H' Ho → DL K Ho ws (Z.cut xs l h) → Q (.ref p) H') : rSlL K v l h H Q := by
  obtain ⟨p, vs, rfl, d, s⟩ := d.rd z
  exact ⟨p, vs, rfl, s, fun q hq => k _ q _ (z.root hq) (DL.cut d l h)⟩
theorem y_cat {xs ys : List α} (d1 : LV K rs Ho v xs) (d2 : LV K rs Ho w ys) (z : Zs rs H Ho) (hg : xs.length + ys.length ≤ sizeLine) (k : ∀ H' p ws, Zs ((p, .lst ws) :: rs) H' Ho → DL K Ho ws (xs ++ ys) → Q (.ref p) H') : rCatS K v w H Q := by
  obtain ⟨p, vs, rfl, d, s⟩ := LV.rd d1 z
  obtain ⟨p', vs', rfl, d', s'⟩ := LV.rd d2 z
  exact ⟨p, p', vs, vs', rfl, rfl, s, s', by rw [d.len, d'.len]; exact hg, fun q hq => k _ _ _ (z.root hq) (d.append d')⟩
theorem rep_dl {vs : List V} {xs : List α} (d : DL K Ho vs xs) (n : Nat) : DL K Ho (List.replicate n vs).flatten (List.replicate n xs).flatten := by
  induction n with
  | zero => exact .nil
  | succ n ih =>
    rw [List.replicate_succ, List.flatten_cons, List.replicate_succ, List.flatten_cons]
    exact d.append ih
def repG {α : Type} (xs : List α) (k : Int) : Prop := -(2 ^ 63) ≤ k ∧ k < 2 ^ 63 ∧ xs.length * k.toNat ≤ sizeLine
def repL {α : Type} (xs : List α) (k : Int) : List α := (List.replicate k.toNat xs).flatten
/-- the new list xs, repeated -/
theorem y_rep {ws : List V} {xs : List α} {n : Int} (z : Zs ((p, .lst ws) :: rs) H Ho) (d : DL K Ho ws xs) (hg : repG xs n) (k : ∀ H' q ws', Zs ((q, .lst ws') :: rs) H' Ho → DL K Ho ws' (repL xs n) → Q (.ref q) H') : rRep (.ref p) (.int n) H Q :=
  ⟨p, n, ws, rfl, rfl, z.head, hg.1, hg.2.1, by rw [DL.len d]; exact hg.2.2, fun q hq => k _ q _ (z.root hq).sw1.tail (rep_dl d _)⟩
theorem y_lstk {vs : List V} {xs : List α} (z : Zs rs H Ho) (d : DL K Ho vs xs) (hl : vs.length ≤ sizeLine) (k : ∀ H' p ws, Zs ((p, .lst ws) :: rs) H' Ho → DL K Ho ws xs → Q (.ref p) H') : vs.length ≤ sizeLine ∧ ∀ p, H p = none → Q (.ref p) (upd H p (.lst vs)) :=
  ⟨hl, fun p hp => k _ p _ (z.root hp) d⟩
theorem y_tupk {vs : List V} {x : α} (z : Zs rs H Ho) (hl : vs.length ≤ sizeLine) (ds : List PyData) (hx : toPy x = .tuple ds) (d : DqAll K Ho vs ds) (k : ∀ p H' Ho', Same Ho Ho' → Zs rs H' Ho' → Z.D K Ho' (.ref p) x → Q (.ref p) H') :
    vs.length ≤ sizeLine ∧ ∀ p, H p = none → Q (.ref p) (upd H p (.tup vs)) :=
  ⟨hl, fun p hp => by
    have e3 : Same Ho (upd Ho p (.tup vs)) := Same.new (z.free hp)
    refine k p _ _ e3 (z.alloc hp) ?_
    show Dq K _ _ (toPy x)
    rw [hx]
    exact .tup upd_same (dpAll_mono e3 _ _ d)⟩
/-! ### statements -/
theorem y_asg (σ' : V → L2.St) (hσ : ∀ v, σ.set i (some v) = σ' v) (k : te σ H fun v H1 => u D (σ' v) H1) : tSeq (tAsg te (gName i)) u D σ H := by
  have e : (fun v H1 => u D (σ' v) H1) = fun v H1 => u D (σ.set i (some v)) H1 := by funext v H1; rw [hσ]
  rw [e] at k
  exact k
theorem y_asgG {g : TG} (k : te σ H fun v H1 => g v σ H1 fun σ' H' => u D σ' H') : tSeq (tAsg te g) u D σ H := k
theorem y_drop (k : te σ H fun _ H1 => u D σ H1) : tSeq (tDrop te) u D σ H := k
theorem y_ret (k : te σ H D.rt) : tSeq (tRet te) u D σ H := k
theorem y_retN (k : D.rt .non H) : tSeq tRetN u D σ H := k
theorem y_doc (k : u D σ H) : tSeq tNext u D σ H := k
theorem y_ifS (k : tt σ H fun b H1 => if b = true then t1 { D with nx := u D } σ H1 else t2 { D with nx := u D } σ H1) : tSeq (tIfS tt t1 t2) u D σ H := k
theorem y_cases {A B : W γ} {b : Bool} {X Y : Prop} (hw : (W.ite b A B).run Φ) (h1 : b = true → A.run Φ → X) (h2 : b = false → B.run Φ → Y) : if b = true then X else Y := by
  cases b with
  | true => exact iteT (h1 rfl (hw.1 rfl))
  | false => exact iteF (h2 rfl (hw.2 rfl))
theorem y_nx (k : D.nx σ H) : tNext D σ H := k
theorem run_ret {β : Type} {a : β} {Φ : β → Prop} (h : (W.ret a).run Φ) : Φ a := h
/-- a value gets a name -/
theorem y_let {e : β} {f : β → W γ} {G : Prop} (hw : (W.bind (W.ret e) f).run Φ) (P : β → Prop) (hp : P e) (k : ∀ x, P x → (f x).run Φ → G) : G := k e hp hw
theorem y_letI {e : Int} {f : Int → W γ} {G : V → Hp → Prop} (hw : (W.bind (W.ret e) f).run Φ) (k : ∀ x, (f x).run Φ → G (.int x) H) : G (.int e) H := k e hw
theorem y_letB {e : Bool} {f : Bool → W γ} {G : V → Hp → Prop} (hw : (W.bind (W.ret e) f).run Φ) (k : ∀ x, (f x).run Φ → G (.bl x) H) : G (.bl e) H := k e hw
theorem y_letS {e : Str} {f : Str → W γ} {G : V → Hp → Prop} (hw : (W.bind (W.ret e) f).run Φ) (k : ∀ x, (f x).run Φ → G (.str x) H) : G (.str e) H := k e hw
def apd {α : Type} (xs : List α) (x : α) : W (List α) := W.guard (xs.length < sizeLine) (W.ret (xs ++ [x]))
def exd {α : Type} (xs ys : List α) : W (List α) := W.guard (xs.length + ys.length ≤ sizeLine) (W.ret (xs ++ ys))
def sti {α : Type} (xs : List α) (i : Int) (y : α) : W (List α) := W.bind (W.opt (ixN xs.length i)) fun j => W.ret (xs.set j y)
theorem y_tyL {R : Prop} {n : Nat} {ws : List V} (z : Zs rs H Ho) (hn : rs[n]? = some (p, .lst ws)) (k : R) : tyV K "list" (.ref p) H ∧ R := ⟨.inl ⟨rfl, _, SqL.of (z.rt _ (List.mem_of_getElem? hn)).1⟩, k⟩
theorem y_app {n : Nat} {ws : List V} {xs : List α} {x : α} {f : List α → W γ} (z : Zs rs H Ho) (hn : rs[n]? = some (p, .lst ws)) (d : DL K Ho ws xs) (dx : Z.D K Ho w x) (hw : (W.bind (apd xs x) f).run Φ) (k : ∀ xs' ws' H', Zs (rs.set n (p, .lst ws')) H' Ho → DL K Ho ws' xs' → (f xs').run Φ → Q .non H') : rAppend (.ref p) [w] H Q := by
  have hp := z.rt _ (List.mem_of_getElem? hn)
  exact ⟨p, ws, w, rfl, rfl, hp.1, by rw [DL.len d]; exact hw.1, k _ _ _ (z.putI hn) (d.push dx) hw.2⟩
theorem y_ext {n m : Nat} {ws us : List V} {q : Addr} {xs ys : List α} {f : List α → W γ} (z : Zs rs H Ho) (hn : rs[n]? = some (p, .lst ws)) (hm : rs[m]? = some (q, .lst us)) (d : DL K Ho ws xs) (dx : DL K Ho us ys) (hw : (W.bind (exd xs ys) f).run Φ) (k : ∀ xs' ws' H', Zs (rs.set n (p, .lst ws')) H' Ho → DL K Ho ws' xs' → (f xs').run Φ → Q .non H') : rExtend (.ref p) [.ref q] H Q := by
  have hp := z.rt _ (List.mem_of_getElem? hn)
  have hq := z.rt _ (List.mem_of_getElem? hm)
  exact ⟨p, q, ws, us, rfl, rfl, hp.1, hq.1, by rw [DL.len d, DL.len dx]; exact hw.1, k _ _ _ (z.putI hn) (d.append dx) hw.2⟩
/-- xs.pop() -/
def popL {α : Type} (xs : List α) : W α := W.opt xs[xs.length - 1]?
theorem dpAll_dropLast {vs : List V} {ds : List PyData} (h : DqAll K H vs ds) : DqAll K H vs.dropLast ds.dropLast := by
  have hl := dpAll_len h
  rw [List.dropLast_eq_take, List.dropLast_eq_take, hl]
  exact dpAll_take h _
theorem y_pop {n : Nat} {ws : List V} {xs : List α} {f : α → W γ} (z : Zs rs H Ho) (hn : rs[n]? = some (p, .lst ws)) (d : DL K Ho ws xs) (hw : (W.bind (popL xs) f).run Φ) (k : ∀ t w ws' H', Zs (rs.set n (p, .lst ws')) H' Ho → DL K Ho ws' xs.dropLast → Z.D K Ho w t → (f t).run Φ → Q w H') : rPop (.ref p) [] H Q := by
  have hp := z.rt _ (List.mem_of_getElem? hn)
  obtain ⟨t, et, hw⟩ := hw
  rw [← DL.len d] at et
  obtain ⟨w, ew, dw⟩ := DL.get d et
  refine ⟨p, ws, w, rfl, rfl, hp.1, ew, k t w _ _ (z.putI hn) ?_ dw hw⟩
  show DqAll _ _ _ (xs.dropLast.map Py.toPy)
  rw [List.map_dropLast]
  exact dpAll_dropLast d
/-- xs.pop(i) -/
def popI {α : Type} (xs : List α) (i : Int) : W (α × List α) := W.guard (-(2 ^ 63) ≤ i ∧ i < 2 ^ 63) (W.bind (W.opt (ixN xs.length i)) fun j => W.bind (W.opt xs[j]?) fun x => W.ret (x, xs.eraseIdx j))
theorem ixN_seq {n : Nat} {i : Int} {j : Nat} (h : ixN n i = some j) : seqIndex? i n = some j := by
  unfold ixN at h
  by_cases c : 0 ≤ i
  · rw [if_pos c] at h
    split at h
    · rename_i hl
      have e : i.toNat = j := Option.some.inj h
      rw [seqIndex_of c (by omega)]
      exact h
    · cases h
  · rw [if_neg c] at h
    split at h
    · rename_i hl
      rw [seqIndex_neg (by omega) (by omega)]
      rw [← h]
    · cases h
theorem dpAll_erase {vs : List V} {ds : List PyData} (h : DqAll K H vs ds) (j : Nat) : DqAll K H (vs.eraseIdx j) (ds.eraseIdx j) := by
  induction vs generalizing ds j with
  | nil => cases h; exact .nil
  | cons u vs ih =>
    cases h with
    | cons h1 h2 =>
      cases j with
      | zero => exact h2
      | succ j => exact .cons h1 (ih h2 j)
theorem map_erase {α β : Type} (f : α → β) : ∀ (xs : List α) (j : Nat), (xs.eraseIdx j).map f = (xs.map f).eraseIdx j
  | [], _ => rfl
  | x :: xs, 0 => rfl
  | x :: xs, j + 1 => by simp [map_erase f xs j]
theorem y_popI {n : Nat} {ws : List V} {xs : List α} {i : Int} {f : α × List α → W γ} (z : Zs rs H Ho) (hn : rs[n]? = some (p, .lst ws)) (d : DL K Ho ws xs) (hw : (W.bind (popI xs i) f).run Φ) (k : ∀ t xs' w ws' H', Zs (rs.set n (p, .lst ws')) H' Ho → DL K Ho ws' xs' → Z.D K Ho w t → (f (t, xs')).run Φ → Q w H') : rPopAt (.ref p) [.int i] H Q := by
  have hp := z.rt _ (List.mem_of_getElem? hn)
  obtain ⟨⟨g1, g2⟩, j, ej, t, et, hw⟩ := hw
  obtain ⟨w, ew, dw⟩ := DL.get d et
  refine ⟨p, ws, i, j, w, rfl, rfl, hp.1, g1, g2, ixN_seq (by rw [DL.len d]; exact ej), ew, k t _ w _ _ (z.putI hn) ?_ dw hw⟩
  show DqAll _ _ _ ((xs.eraseIdx j).map Py.toPy)
  rw [map_erase]
  exact dpAll_erase d j
theorem y_gsub {to ti : TE} {t : TSet} {QS : L2.St → Hp → Prop} (k : to σ H fun o H1 => ti σ H1 fun i H2 => t o i v H2 fun H3 => QS σ H3) : gSub to ti t v σ H QS := k
theorem y_sti {n : Nat} {ws : List V} {xs : List α} {x : α} {i : Int} {QH : Hp → Prop} {f : List α → W γ} (z : Zs rs H Ho) (hn : rs[n]? = some (p, .lst ws)) (d : DL K Ho ws xs) (dx : Z.D K Ho w x) (hw : (W.bind (sti xs i x) f).run Φ) (k : ∀ xs' ws' H', Zs (rs.set n (p, .lst ws')) H' Ho → DL K Ho ws' xs' → (f xs').run Φ → QH H') : rSetL (.ref p) (.int i) w H QH := by
  have hp := z.rt _ (List.mem_of_getElem? hn)
  obtain ⟨j, ej, hw⟩ := hw
  exact ⟨p, ws, i, j, rfl, rfl, hp.1, by rw [DL.len d]; exact ej, k _ _ _ (z.putI hn) (DL.set d dx j) hw⟩
theorem y_augS {to ti : TE} {tget : V → V → Hp → VK → Prop} {tip : TIp} {tset : TSet} (k : to σ H fun o H1 => ti σ H1 fun i H2 => tget o i H2 fun x H3 => te σ H3 fun y H4 => tip x y H4 fun z H5 => tset o i z H5 fun H6 => u D σ H6) : tSeq (tAugS to ti te tget tip tset) u D σ H := k
theorem y_ip {f : Int → Int → Int} {a b : Int} (k : Q (.int (f a b)) H) : ipI f (.int a) (.int b) H Q := ⟨a, b, rfl, rfl, k⟩
theorem y_aug (σ' : V → L2.St) {tip : TIp} (h : σ[i]? = some (some v)) (hσ : ∀ v, σ.set i (some v) = σ' v) (k : te σ H fun y H1 => tip v y H1 fun z H2 => u D (σ' z) H2) : tSeq (tAug i te tip) u D σ H := by
  have e : (fun z H2 => u D (σ' z) H2) = fun z H2 => u D (σ.set i (some z)) H2 := by funext v H1; rw [hσ]
  refine ⟨v, h, ?_⟩
  rw [e] at k
  exact k
end
end Z

/-! # Y2: what is walked, loops, comprehensions, joins, errors, built-ins -/
namespace Z
open PySem PySem.Spec PyProof.Rows L2

/-! ### what is walked -/
def rng (a b : Int) : List Int := (List.range (b - a).toNat).map fun k : Nat => a + k
def rngD (a b : Int) : List Int := (List.range (a - b).toNat).map fun k : Nat => a - k
def enumZ {α : Type} (xs : List α) : List (Int × α) := (rng 0 xs.length).zip xs
def enumS {α : Type} (n : Int) (xs : List α) : List (Int × α) := (rng n (n + xs.length)).zip xs
def rngOk (a b : Int) : Prop := -(2 ^ 62) ≤ a ∧ a < 2 ^ 62 ∧ -(2 ^ 62) ≤ b ∧ b < 2 ^ 62
/-- the turns of an iterator, by the items' data -/
def Trn {α : Type} [Py α] (K : PySem.W.Frag) (r0 : List (Addr × HO)) (J : It) (xs : List α) (Ho2 : Hp) : Prop :=
  ∀ i rs' H' Ho', Same Ho2 Ho' → Zs rs' H' Ho' → (∀ r ∈ r0, r ∈ rs') → (∀ a, xs[i]? = some a → J.go i H' ∧ ∀ x H'', J.yld i H' x H'' → ∃ Ho'', Same Ho' Ho'' ∧ (∀ rs, Zs rs H' Ho' → Zs rs H'' Ho'') ∧ D K Ho'' x a) ∧ (xs.length ≤ i → J.stop i H')
section
variable {K : PySem.W.Frag} {rs r0 : List (Addr × HO)} {σ : L2.St} {H Ho : Hp} {ta tb tc te tl : TE} {tt tu : TT} {α β γ : Type} [Py α] [Py β] {p : Addr} {Φ : γ → Prop} {R : It → Hp → Prop} {v u : V}
theorem src_stay {q : Addr} {ys : List V} {rs' : List (Addr × HO)} {H Ho' : Hp} (s : SqL K Ho q ys ∨ (q, HO.lst ys) ∈ rs) (e : Same Ho Ho') (z : Zs rs' H Ho') (sub : ∀ r ∈ rs, r ∈ rs') : SqL K H q ys := by
  rcases s with s | s
  · exact z.le.seq (e.seq s)
  · exact SqL.of (z.rt _ (sub _ s)).1
theorem trn_list {q : Addr} {xs : List α} {v : V} (h : LV K r0 Ho v xs) (hv : v = .ref q) : Trn K r0 (Itl K q) xs Ho := by
  intro i rs' H' Ho' e z sub
  obtain ⟨q', ys, rfl, d, s⟩ := h
  cases hv
  have sq : SqL K H' q ys := src_stay s e z sub
  refine ⟨fun a ha => ?_, fun hl => ⟨ys, sq, by rw [d.len]; exact hl⟩⟩
  obtain ⟨w, ew, dw⟩ := d.get ha
  refine ⟨⟨ys, w, sq, ew⟩, fun x H'' y => ?_⟩
  obtain ⟨rfl, y⟩ := y
  have ex : x = w := Option.some.inj ((y _ sq).symm.trans ew)
  subst ex
  exact ⟨Ho', Same.refl _, fun _ z => z, D.mo dw e⟩
theorem y_iList (k : te σ H fun x H1 => ∃ a, x = .ref a ∧ (∃ xs, SqL K H1 a xs) ∧ R (Itl K a) H1) : iList K te σ H R := k
theorem y_srcL {xs : List α} (d : LV K r0 Ho v xs) (hs : ∀ r ∈ r0, r ∈ rs) (z : Zs rs H Ho) (k : ∀ J, Trn K r0 J xs Ho → R J H) : ∃ a, v = .ref a ∧ (∃ ys, SqL K H a ys) ∧ R (Itl K a) H := by
  obtain ⟨q, ys, rfl, dd, s⟩ := id d
  exact ⟨q, rfl, ⟨ys, src_stay s (Same.refl _) z hs⟩, k _ (trn_list d rfl)⟩
theorem trn_tup {q : Addr} {xs : List α} {ys : List V} (s : Ho q = some (.tup ys)) (d : DL K Ho ys xs) : Trn K [] (Itt K q) xs Ho := by
  intro i rs' H' Ho' e z sub
  have sq : SqT K H' q ys := SqT.of (z.le _ _ (e _ _ s))
  refine ⟨fun a ha => ?_, fun hl => ⟨ys, sq, by rw [d.len]; exact hl⟩⟩
  obtain ⟨w, ew, dw⟩ := d.get ha
  refine ⟨⟨ys, w, sq, ew⟩, fun x H'' y => ?_⟩
  obtain ⟨rfl, y⟩ := y
  have ex : x = w := Option.some.inj ((y _ sq).symm.trans ew)
  subst ex
  exact ⟨Ho', Same.refl _, fun _ z => z, D.mo dw e⟩
theorem y_iTup (k : te σ H fun x H1 => ∃ a, x = .ref a ∧ (∃ xs, SqT K H1 a xs) ∧ R (Itt K a) H1) : iTup K te σ H R := k
/-- over a tuple of things of one kind -/
theorem y_srcT {x : β} {xs : List α} (d : D K Ho v x) (hf : toPy x = .tuple (xs.map Py.toPy)) (z : Zs rs H Ho) (k : ∀ J, Trn K [] J xs Ho → R J H) : ∃ a, v = .ref a ∧ (∃ ys, SqT K H a ys) ∧ R (Itt K a) H := by
  have d : Dq K Ho v (toPy x) := d
  rw [hf] at d
  cases d with
  | tup hs ha => exact ⟨_, rfl, ⟨_, SqT.of (z.le _ _ hs)⟩, k _ (trn_tup hs ha)⟩
theorem rng_get {a b : Int} {i : Nat} {x : Int} (h : (rng a b)[i]? = some x) : i < (b - a).toNat ∧ x = a + i := by
  unfold rng at h
  rw [List.getElem?_map] at h
  cases e : (List.range (b - a).toNat)[i]? with
  | none => rw [e] at h; cases h
  | some k =>
    rw [e] at h
    obtain ⟨hl, ek⟩ := List.getElem?_eq_some_iff.mp e
    rw [List.getElem_range] at ek
    subst ek
    rw [List.length_range] at hl
    exact ⟨hl, (Option.some.inj h).symm⟩
theorem rng_len {a b : Int} : (rng a b).length = (b - a).toNat := by unfold rng; simp
theorem trn_range {a b : Int} : Trn K [] (Itr a (b - a).toNat) (rng a b) Ho := by
  intro i rs' H' Ho' e z sub
  refine ⟨fun x hx => ?_, fun hl => ?_⟩
  · obtain ⟨hi, rfl⟩ := rng_get hx
    refine ⟨hi, fun y H'' yy => ?_⟩
    obtain ⟨rfl, rfl⟩ := yy
    exact ⟨Ho', Same.refl _, fun _ z => z, .int _⟩
  · rw [rng_len] at hl
    exact hl
theorem y_iR1 {ts : TA} (k : ts σ H fun vs H1 => ∃ j : Int, vs = [.int j] ∧ -(2 ^ 62) ≤ j ∧ j < 2 ^ 62 ∧ R (Itr 0 j.toNat) H1) : iRng1 ts σ H R := k
theorem y_iR2 {ts : TA} (k : ts σ H fun vs H1 => ∃ i j : Int, vs = [.int i, .int j] ∧ (-(2 ^ 62) ≤ i ∧ i < 2 ^ 62 ∧ -(2 ^ 62) ≤ j ∧ j < 2 ^ 62) ∧ R (Itr i (j - i).toNat) H1) : iRng2 ts σ H R := k
theorem y_srcR1 {n : Int} (hg : rngOk 0 n) (k : ∀ J, Trn K [] J (rng 0 n) Ho → R J H) : ∃ j : Int, [V.int n] = [.int j] ∧ -(2 ^ 62) ≤ j ∧ j < 2 ^ 62 ∧ R (Itr 0 j.toNat) H := by
  refine ⟨n, rfl, hg.2.2.1, hg.2.2.2, ?_⟩
  have e : n.toNat = (n - 0).toNat := by rw [Int.sub_zero]
  rw [e]
  exact k _ trn_range
theorem y_srcR2 {a b : Int} (hg : rngOk a b) (k : ∀ J, Trn K [] J (rng a b) Ho → R J H) : ∃ i j : Int, [V.int a, V.int b] = [.int i, .int j] ∧ (-(2 ^ 62) ≤ i ∧ i < 2 ^ 62 ∧ -(2 ^ 62) ≤ j ∧ j < 2 ^ 62) ∧ R (Itr i (j - i).toNat) H :=
  ⟨a, b, rfl, hg, k _ trn_range⟩
theorem trn_rangeD {a b : Int} : Trn K [] (Itc a (-1) (a - b).toNat) (rngD a b) Ho := by
  intro i rs' H' Ho' e z sub
  refine ⟨fun x hx => ?_, fun hl => ?_⟩
  · unfold rngD at hx
    rw [List.getElem?_map] at hx
    cases q : (List.range (a - b).toNat)[i]? with
    | none => rw [q] at hx; cases hx
    | some k =>
      rw [q] at hx
      obtain ⟨hl, ek⟩ := List.getElem?_eq_some_iff.mp q
      rw [List.getElem_range] at ek
      subst ek
      rw [List.length_range] at hl
      have ex : x = a - i := (Option.some.inj hx).symm
      subst ex
      refine ⟨hl, fun y H'' yy => ?_⟩
      obtain ⟨rfl, rfl⟩ := yy
      have q2 : a + (i : Int) * -1 = a - i := by omega
      rw [q2]
      exact ⟨Ho', Same.refl _, fun _ z => z, .int _⟩
  · unfold rngD at hl
    rw [List.length_map, List.length_range] at hl
    exact hl
theorem trn_zip {a b : Addr} {xs : List α} {ys : List β} {v u : V} (h : LV K r0 Ho v xs) (hv : v = .ref a) (h' : LV K r0 Ho u ys) (hu : u = .ref b) : Trn K r0 (Itz K a b) (xs.zip ys) Ho := by
  intro i rs' H' Ho' e z sub
  obtain ⟨a', vs, rfl, d, s⟩ := h
  obtain ⟨b', us, rfl, d', s'⟩ := h'
  cases hv
  cases hu
  have sa : SqL K H' a vs := src_stay s e z sub
  have sb : SqL K H' b us := src_stay s' e z sub
  refine ⟨fun p hp => ?_, fun hl => ⟨vs, us, sa, sb, ?_⟩⟩
  · obtain ⟨hx, hy⟩ := List.getElem?_zip_eq_some.mp hp
    obtain ⟨x, ex, dx⟩ := d.get hx
    obtain ⟨y, ey, dy⟩ := d'.get hy
    refine ⟨⟨vs, us, x, y, sa, sb, ex, ey⟩, fun t H'' yy => ?_⟩
    obtain ⟨T, x', y', rfl, hT, rfl, qx, qy⟩ := yy
    have e1 : x' = x := Option.some.inj ((qx _ sa).symm.trans ex)
    have e2 : y' = y := Option.some.inj ((qy _ sb).symm.trans ey)
    subst e1 e2
    have e3 : Same Ho' (upd Ho' T (.tup [x', y'])) := Same.new (z.free hT)
    exact ⟨_, e3, fun _ z => z.alloc hT, .tup upd_same (.cons (D.mo (D.mo dx e) e3) (.cons (D.mo (D.mo dy e) e3) .nil))⟩
  · rw [List.length_zip] at hl
    rw [d.len, d'.len]
    omega
theorem trn_enum {a : Addr} {xs : List α} {v : V} (h : LV K r0 Ho v xs) (hv : v = .ref a) : Trn K r0 (Ite K a) (enumZ xs) Ho := by
  intro i rs' H' Ho' e z sub
  obtain ⟨a', vs, rfl, d, s⟩ := h
  cases hv
  have sa : SqL K H' a vs := src_stay s e z sub
  refine ⟨fun p hp => ?_, fun hl => ⟨vs, sa, ?_⟩⟩
  · obtain ⟨hx, hy⟩ := List.getElem?_zip_eq_some.mp hp
    obtain ⟨_, hx⟩ := rng_get hx
    obtain ⟨y, ey, dy⟩ := d.get hy
    refine ⟨⟨vs, y, sa, ey⟩, fun t H'' yy => ?_⟩
    obtain ⟨T, y', rfl, hT, rfl, qy⟩ := yy
    have e2 : y' = y := Option.some.inj ((qy _ sa).symm.trans ey)
    subst e2
    have e3 : Same Ho' (upd Ho' T (.tup [.int (i : Nat), y'])) := Same.new (z.free hT)
    obtain ⟨p1, p2⟩ := p
    dsimp only at hx
    rw [Int.zero_add] at hx
    subst hx
    exact ⟨_, e3, fun _ z => z.alloc hT, .tup upd_same (.cons (.int _) (.cons (D.mo (D.mo dy e) e3) .nil))⟩
  · unfold enumZ at hl
    rw [List.length_zip, rng_len] at hl
    rw [d.len]
    omega
theorem trn_rev {a : Addr} {xs : List α} {v : V} (h : LV K r0 Ho v xs) (hv : v = .ref a) : Trn K r0 (Itv K a xs.length) xs.reverse Ho := by
  intro i rs' H' Ho' e z sub
  obtain ⟨a', vs, rfl, d, s⟩ := h
  cases hv
  have sa : SqL K H' a vs := src_stay s e z sub
  have hl := d.len
  refine ⟨fun p hp => ?_, fun hl => by rw [List.length_reverse] at hl; exact hl⟩
  have hi : i < xs.length := by
    have := (List.getElem?_eq_some_iff.mp hp).1
    rwa [List.length_reverse] at this
  rw [List.getElem?_reverse hi] at hp
  obtain ⟨x, ex, dx⟩ := d.get hp
  refine ⟨⟨hi, vs, x, sa, ex⟩, fun t H'' yy => ?_⟩
  obtain ⟨rfl, qx⟩ := yy
  have e1 : t = x := Option.some.inj ((qx _ sa).symm.trans ex)
  subst e1
  exact ⟨Ho', Same.refl _, fun _ z => z, D.mo dx e⟩
section
variable {ts : TA}
theorem y_iR3 (k : ts σ H fun vs H1 => ∃ (a b c : Int) (n : Nat), vs = [.int a, .int b, .int c] ∧ RgC a b c n ∧ R (Itc a c n) H1) : iRng3 ts σ H R := k
theorem y_srcR3 {a b : Int} (hg : rngOk b a) (k : ∀ J, Trn K [] J (rngD a b) Ho → R J H) : ∃ (a' b' c : Int) (n : Nat), [V.int a, V.int b, V.int (-1)] = [.int a', .int b', .int c] ∧ RgC a' b' c n ∧ R (Itc a' c n) H :=
  ⟨a, b, -1, _, rfl, RgC.neg hg.2.2.1 hg.2.2.2 hg.1 hg.2.1, k _ trn_rangeD⟩
theorem y_iZip (k : ts σ H fun vs H1 => ∃ a b xs ys, vs = [.ref a, .ref b] ∧ SqL K H1 a xs ∧ SqL K H1 b ys ∧ R (Itz K a b) H1) : iZip K ts σ H R := k
theorem y_srcZ {xs : List α} {ys : List β} (d : LV K r0 Ho v xs) (d' : LV K r0 Ho u ys) (hs : ∀ r ∈ r0, r ∈ rs) (z : Zs rs H Ho) (k : ∀ J, Trn K r0 J (xs.zip ys) Ho → R J H) : ∃ a b xs ys, [v, u] = [.ref a, .ref b] ∧ SqL K H a xs ∧ SqL K H b ys ∧ R (Itz K a b) H := by
  obtain ⟨a', vs, rfl, dd, s⟩ := id d
  obtain ⟨b', us, rfl, dd', s'⟩ := id d'
  exact ⟨a', b', vs, us, rfl, src_stay s (Same.refl _) z hs, src_stay s' (Same.refl _) z hs, k _ (trn_zip d rfl d' rfl)⟩
theorem y_iEnum (k : ts σ H fun vs H1 => ∃ a xs, vs = [.ref a] ∧ SqL K H1 a xs ∧ R (Ite K a) H1) : iEnum K ts σ H R := k
theorem y_srcE {xs : List α} (d : LV K r0 Ho v xs) (hs : ∀ r ∈ r0, r ∈ rs) (z : Zs rs H Ho) (k : ∀ J, Trn K r0 J (enumZ xs) Ho → R J H) : ∃ a xs, [v] = [.ref a] ∧ SqL K H a xs ∧ R (Ite K a) H := by
  obtain ⟨a', vs, rfl, dd, s⟩ := id d
  exact ⟨a', vs, rfl, src_stay s (Same.refl _) z hs, k _ (trn_enum d rfl)⟩
theorem y_iRev (k : ts σ H fun vs H1 => ∃ a xs, vs = [.ref a] ∧ SqL K H1 a xs ∧ R (Itv K a xs.length) H1) : iRev K ts σ H R := k
theorem y_srcV {xs : List α} (d : LV K r0 Ho v xs) (hs : ∀ r ∈ r0, r ∈ rs) (z : Zs rs H Ho) (k : ∀ J, Trn K r0 J xs.reverse Ho → R J H) : ∃ a xs, [v] = [.ref a] ∧ SqL K H a xs ∧ R (Itv K a xs.length) H := by
  obtain ⟨a', vs, rfl, dd, s⟩ := id d
  exact ⟨a', vs, rfl, src_stay s (Same.refl _) z hs, by rw [dd.len]; exact k _ (trn_rev d rfl)⟩
end
/-! ### loops -/
theorem drop_cons {γ : Type} {xs : List γ} {i : Nat} {x : γ} (h : xs[i]? = some x) : xs.drop i = x :: xs.drop (i + 1) := by
  obtain ⟨hi, e⟩ := List.getElem?_eq_some_iff.mp h
  rw [List.drop_eq_getElem_cons hi, e]
def ForG (g : TG) (tb u : TS) (D : Ends) (σ : L2.St) (J : It) (H1 : Hp) : Prop := ∃ W : Nat → Nat → L2.St → Hp → Prop, (∃ m, W 0 m σ H1) ∧ ∀ i m σ H, W i m σ H →
  (J.stop i H ∧ u D σ H) ∨ (J.go i H ∧ ∃ N : L2.St → Hp → Prop, (∀ σ' H', N σ' H' → ∃ m', m' < m ∧ W (i + 1) m' σ' H') ∧ ∀ x H', J.yld i H x H' → g x σ H' fun σ2 H2 => tb { D with nx := N, ct := N, bk := u D } σ2 H2)
variable {g : TG} {u1 tb' : TS} {D : Ends}
theorem y_for {wi_ : TI} (k : wi_ σ H fun J H1 => ForG g tb' u1 D σ J H1) : tSeq (tFor wi_ g tb') u1 D σ H := k
theorem y_forL {S : Type} {J : It} {xs : List α} {s0 : S} {body : α → S → W S} {f : S → W γ} (T : Trn K r0 J xs Ho) (hw : (W.bind (W.forL xs s0 body) f).run Φ) (I : S → L2.St → Hp → Hp → Prop) (i0 : I s0 σ H Ho)
    (hz : ∀ s σ' H' Ho', I s σ' H' Ho' → ∃ rs', Zs rs' H' Ho' ∧ ∀ r ∈ r0, r ∈ rs')
    (im : ∀ s σ' H' Ho' H'' Ho'', I s σ' H' Ho' → Same Ho' Ho'' → (∀ rs, Zs rs H' Ho' → Zs rs H'' Ho'') → I s σ' H'' Ho'')
    (step : ∀ a x s σ' H' Ho' (N : L2.St → Hp → Prop), Same Ho Ho' → I s σ' H' Ho' → Z.D K Ho' x a → (body a s).run (fun s' => ∀ σ'' H'' Ho'', Same Ho' Ho'' → I s' σ'' H'' Ho'' → N σ'' H'') → g x σ' H' fun σ2 H2 => tb' { D with nx := N, ct := N, bk := u1 D } σ2 H2)
    (done : ∀ s σ' H' Ho', Same Ho Ho' → I s σ' H' Ho' → (f s).run Φ → u1 D σ' H') : ForG g tb' u1 D σ J H := by
  refine ⟨fun i m σ' H' => m = xs.length - i ∧ i ≤ xs.length ∧ ∃ s Ho', Same Ho Ho' ∧ I s σ' H' Ho' ∧ (W.bind (W.forL (xs.drop i) s body) f).run Φ, ⟨xs.length, by simp, Nat.zero_le _, s0, Ho, Same.refl _, i0, hw⟩, ?_⟩
  rintro i m σ' H' ⟨rfl, hi, s, Ho', e', hI, hw⟩
  obtain ⟨rs', z', sub⟩ := hz s σ' H' Ho' hI
  have tr := T i rs' H' Ho' e' z' sub
  by_cases hlt : i < xs.length
  · refine .inr ?_
    have hxi := List.getElem?_eq_getElem hlt
    obtain ⟨go, yl⟩ := tr.1 _ hxi
    rw [drop_cons hxi] at hw
    refine ⟨go, fun σ'' H'' => ∃ s' Ho'', Same Ho Ho'' ∧ I s' σ'' H'' Ho'' ∧ (W.bind (W.forL (xs.drop (i + 1)) s' body) f).run Φ, fun σ'' H'' hN => ⟨xs.length - (i + 1), by omega, rfl, hlt, hN⟩, fun x H'' y => ?_⟩
    obtain ⟨Ho3, e3, z3, dx⟩ := yl x H'' y
    refine step _ x s σ' H'' Ho3 _ (e'.trans e3) (im _ _ _ _ _ _ hI e3 z3) dx ?_
    exact W.mono _ _ _ (fun s' hs' σ4 H4 Ho4 e4 hI4 => ⟨s', Ho4, (e'.trans e3).trans e4, hI4, hs'⟩) (show (body xs[i] s).run (fun s' => (W.bind (W.forL (xs.drop (i + 1)) s' body) f).run Φ) from hw)
  · have e : i = xs.length := by omega
    subst e
    rw [List.drop_length] at hw
    exact .inl ⟨tr.2 (Nat.le_refl _), done s σ' H' Ho' e' hI hw⟩
theorem y_forC {S ρ : Type} {J : It} {xs : List α} {s0 : S} {body : α → S → W (Ctl ρ S)} {f : S → W ρ} {Φ : ρ → Prop} (T : Trn K r0 J xs Ho) (hw : (W.bind (W.forC xs s0 body) fun c => W.after c f).run Φ) (I : S → L2.St → Hp → Hp → Prop) (i0 : I s0 σ H Ho)
    (hz : ∀ s σ' H' Ho', I s σ' H' Ho' → ∃ rs', Zs rs' H' Ho' ∧ ∀ r ∈ r0, r ∈ rs')
    (im : ∀ s σ' H' Ho' H'' Ho'', I s σ' H' Ho' → Same Ho' Ho'' → (∀ rs, Zs rs H' Ho' → Zs rs H'' Ho'') → I s σ' H'' Ho'')
    (step : ∀ a x s σ' H' Ho' (N B : L2.St → Hp → Prop), Same Ho Ho' → I s σ' H' Ho' → Z.D K Ho' x a → (body a s).run (CtlP (fun s' => ∀ σ'' H'' Ho'', Same Ho' Ho'' → I s' σ'' H'' Ho'' → N σ'' H'') (fun s' => ∀ σ'' H'' Ho'', Same Ho' Ho'' → I s' σ'' H'' Ho'' → B σ'' H'') Φ) → g x σ' H' fun σ2 H2 => tb' { D with nx := N, ct := N, bk := B } σ2 H2)
    (done : ∀ s σ' H' Ho', Same Ho Ho' → I s σ' H' Ho' → (f s).run Φ → u1 D σ' H') : ForG g tb' u1 D σ J H := by
  refine ⟨fun i m σ' H' => m = xs.length - i ∧ i ≤ xs.length ∧ ∃ s Ho', Same Ho Ho' ∧ I s σ' H' Ho' ∧ (W.bind (W.forC (xs.drop i) s body) fun c => W.after c f).run Φ, ⟨xs.length, by simp, Nat.zero_le _, s0, Ho, Same.refl _, i0, hw⟩, ?_⟩
  rintro i m σ' H' ⟨rfl, hi, s, Ho', e', hI, hw⟩
  obtain ⟨rs', z', sub⟩ := hz s σ' H' Ho' hI
  have tr := T i rs' H' Ho' e' z' sub
  by_cases hlt : i < xs.length
  · refine .inr ?_
    have hxi := List.getElem?_eq_getElem hlt
    obtain ⟨go, yl⟩ := tr.1 _ hxi
    rw [drop_cons hxi] at hw
    refine ⟨go, fun σ'' H'' => ∃ s' Ho'', Same Ho Ho'' ∧ I s' σ'' H'' Ho'' ∧ (W.bind (W.forC (xs.drop (i + 1)) s' body) fun c => W.after c f).run Φ, fun σ'' H'' hN => ⟨xs.length - (i + 1), by omega, rfl, hlt, hN⟩, fun x H'' y => ?_⟩
    obtain ⟨Ho3, e3, z3, dx⟩ := yl x H'' y
    refine step _ x s σ' H'' Ho3 _ (u1 D) (e'.trans e3) (im _ _ _ _ _ _ hI e3 z3) dx ?_
    refine W.mono _ _ _ (fun c hc => ?_) (show (body xs[i] s).run _ from hw)
    cases c with
    | nx s' => exact fun σ4 H4 Ho4 e4 hI4 => ⟨s', Ho4, (e'.trans e3).trans e4, hI4, hc⟩
    | bk s' => exact fun σ4 H4 Ho4 e4 hI4 => done s' σ4 H4 Ho4 ((e'.trans e3).trans e4) hI4 hc
    | rt r => exact hc
  · have e : i = xs.length := by omega
    subst e
    rw [List.drop_length] at hw
    exact .inl ⟨tr.2 (Nat.le_refl _), done s σ' H' Ho' e' hI hw⟩
theorem y_while {S ρ : Type} {s0 : S} {body : S → W (Ctl ρ S)} {f : S → W ρ} {Φ : ρ → Prop} (hw : (W.bind (W.whileL s0 body) fun c => W.after c f).run Φ) (I : S → L2.St → Hp → Hp → Prop) (i0 : I s0 σ H Ho)
    (step : ∀ s σ' H' Ho' (N B : L2.St → Hp → Prop) (E : (L2.St → Hp → Prop) → Prop), E N → Same Ho Ho' → I s σ' H' Ho' → (body s).run (CtlP (fun s' => ∀ σ'' H'' Ho'', Same Ho' Ho'' → I s' σ'' H'' Ho'' → N σ'' H'') (fun s' => ∀ σ'' H'' Ho'', Same Ho' Ho'' → I s' σ'' H'' Ho'' → B σ'' H'') Φ) →
      tt σ' H' fun b H1 => if b = true then ∃ N, E N ∧ tb' { D with nx := N, ct := N, bk := B } σ' H1 else B σ' H1)
    (done : ∀ s σ' H' Ho', Same Ho Ho' → I s σ' H' Ho' → (f s).run Φ → u1 D σ' H') : tSeq (tWhile tt tb') u1 D σ H := by
  obtain ⟨n, hw⟩ := hw
  refine ⟨fun m σ' H' => ∃ s Ho', Same Ho Ho' ∧ I s σ' H' Ho' ∧ (W.bind (W.whileN m s body) fun c => W.after c f).run Φ, ⟨n, s0, Ho, Same.refl _, i0, hw⟩, ?_⟩
  rintro m σ' H' ⟨s, Ho', e', hI, hw⟩
  cases m with
  | zero => exact hw.elim
  | succ m =>
    refine step s σ' H' Ho' (fun σ'' H'' => ∃ s' Ho'', Same Ho Ho'' ∧ I s' σ'' H'' Ho'' ∧ (W.bind (W.whileN m s' body) fun c => W.after c f).run Φ) (u1 D) (fun N => ∀ σ' H', N σ' H' → ∃ m', m' < m + 1 ∧ ∃ s Ho', Same Ho Ho' ∧ I s σ' H' Ho' ∧ (W.bind (W.whileN m' s body) fun c => W.after c f).run Φ) (fun σ2 H2 h2 => ⟨m, Nat.lt_succ_self _, h2⟩) e' hI ?_
    refine W.mono _ _ _ (fun c hc => ?_) (show (body s).run _ from hw)
    cases c with
    | nx s' => exact fun σ4 H4 Ho4 e4 hI4 => ⟨s', Ho4, e'.trans e4, hI4, hc⟩
    | bk s' => exact fun σ4 H4 Ho4 e4 hI4 => done s' σ4 H4 Ho4 (e'.trans e4) hI4 hc
    | rt r => exact hc
end
end Z

/-! # Y3: targets, comprehensions, joins, errors, built-ins -/
namespace Z
open PySem PySem.Spec PyProof.Rows L2
section
variable {K : PySem.W.Frag} {rs r0 : List (Addr × HO)} {σ : L2.St} {H Ho : Hp} {ta tb tc te tl : TE} {tt tu : TT} {α β γ : Type} [Py α] [Py β] {p : Addr} {Φ : γ → Prop} {Q : VK} {v u : V}
/-! ### targets -/
theorem y_gname {i : Nat} {x : V} {σ σ' : L2.St} {Q : L2.St → Hp → Prop} (hs : σ.set i (some x) = σ') (h : Q σ' H) : gName i x σ H Q := by
  show Q _ H
  rw [hs]
  exact h
theorem y_gt2 {i j : Nat} {x : V} {σ : L2.St} {Q : L2.St → Hp → Prop} {a : α × β} (d : D K Ho x a) (z : Zs rs H Ho) (k : ∀ v u, D K Ho v a.1 → D K Ho u a.2 → Q ((σ.set i (some v)).set j (some u)) H) : gTup K 2 (gCons (gName i) (gCons (gName j) gNil)) x σ H Q := by
  cases d with
  | tup hs ha =>
    cases ha with
    | cons h1 h2 =>
      cases h2 with
      | cons h2 h3 =>
        cases h3
        exact ⟨_, _, rfl, SqT.of (z.le _ _ hs), rfl, _, _, rfl, _, _, rfl, rfl, k _ _ h1 h2⟩
theorem y_gt3 {δ : Type} [Py δ] {i j l : Nat} {x : V} {σ : L2.St} {Q : L2.St → Hp → Prop} {a : P3 α β δ} (d : D K Ho x a) (z : Zs rs H Ho) (k : ∀ v u w, D K Ho v a.a → D K Ho u a.b → D K Ho w a.c → Q (((σ.set i (some v)).set j (some u)).set l (some w)) H) :
    gTup K 3 (gCons (gName i) (gCons (gName j) (gCons (gName l) gNil))) x σ H Q := by
  cases d with
  | tup hs ha =>
    cases ha with
    | cons h1 h2 =>
      cases h2 with
      | cons h2 h3 =>
        cases h3 with
        | cons h3 h4 =>
          cases h4
          exact ⟨_, _, rfl, SqT.of (z.le _ _ hs), rfl, _, _, rfl, _, _, rfl, _, _, rfl, rfl, k _ _ _ h1 h2 h3⟩
theorem y_gt4 {δ ε : Type} [Py δ] [Py ε] {i j l m : Nat} {x : V} {σ : L2.St} {Q : L2.St → Hp → Prop} {a : P4 α β δ ε} (d : D K Ho x a) (z : Zs rs H Ho) (k : ∀ v u w t, D K Ho v a.a → D K Ho u a.b → D K Ho w a.c → D K Ho t a.d → Q ((((σ.set i (some v)).set j (some u)).set l (some w)).set m (some t)) H) :
    gTup K 4 (gCons (gName i) (gCons (gName j) (gCons (gName l) (gCons (gName m) gNil)))) x σ H Q := by
  cases d with
  | tup hs ha =>
    cases ha with
    | cons h1 h2 =>
      cases h2 with
      | cons h2 h3 =>
        cases h3 with
        | cons h3 h4 =>
          cases h4 with
          | cons h4 h5 =>
            cases h5
            exact ⟨_, _, rfl, SqT.of (z.le _ _ hs), rfl, _, _, rfl, _, _, rfl, _, _, rfl, _, _, rfl, rfl, k _ _ _ _ h1 h2 h3 h4⟩
/-! ### comprehensions -/
def comp {α β : Type} : List α → List β → (α → W Bool) → (α → W β) → W (List β)
  | [], acc, _, _ => W.ret acc
  | x :: xs, acc, t, f => W.bind (t x) fun b => W.ite b (W.bind (f x) fun y => comp xs (acc ++ [y]) t f) (comp xs acc t f)
def compG {α β : Type} (xs : List α) (t : α → W Bool) (f : α → W β) : W (List β) := W.guard (xs.length ≤ sizeLine) (comp xs [] t f)
/-- with a state -/
def compS {α β S : Type} : List α → List β → S → (α → S → W (Option β × S)) → W (List β × S)
  | [], acc, s, _ => W.ret (acc, s)
  | x :: xs, acc, s, f => W.bind (f x s) fun r => match r.1 with
    | none => compS xs acc r.2 f
    | some y => compS xs (acc ++ [y]) r.2 f
def compSG {α β S : Type} (xs : List α) (s : S) (f : α → S → W (Option β × S)) : W (List β × S) := W.guard (xs.length ≤ sizeLine) (compS xs [] s f)
def LcG (g : TG) (tt : TT) (te : TE) (vs : List Nat) (σ : L2.St) (Q : VK) (J : It) (H1 : Hp) : Prop := ∀ D, H1 D = none → ∃ W : Nat → Nat → Hp → Prop, (∃ m, W 0 m (upd H1 D (.lst []))) ∧ ∀ i m H, W i m H →
  (J.stop i H ∧ Q (.ref D) H) ∨ (J.go i H ∧ ∃ Nx : Hp → Prop, (∀ H', Nx H' → ∃ m', m' < m ∧ W (i + 1) m' H') ∧ ∀ x H', J.yld i H x H' → g x (wipe σ vs) H' fun σ2 H2 => wipe σ2 vs = wipe σ vs ∧ tt σ2 H2 fun b H3 =>
    if b = true then te σ2 H3 fun y H4 => ∃ acc, H4 D = some (.lst acc) ∧ acc.length < sizeLine ∧ Nx (upd H4 D (.lst (acc ++ [y]))) else Nx H3)
variable {g : TG} {vs : List Nat} {wi : TI}
theorem y_lc (k : wi σ H fun J H1 => LcG g tt te vs σ Q J H1) : tLc wi g tt te vs σ H Q := k
theorem y_yes {QB : Bool → Hp → Prop} (k : QB true H) : tYes σ H QB := k
theorem y_lcG {J : It} {xs : List α} {ct : α → W Bool} {cf : α → W β} {f : List β → W γ} (z : Zs rs H Ho) (hr : ∀ r ∈ r0, r ∈ rs) (T : Trn K r0 J xs Ho) (hw : (W.bind (compG xs ct cf) f).run Φ)
    (hx : ∀ (r : Addr × HO) a x H' Ho' (N : VK) (N' : Hp → Prop), Same Ho Ho' → Zs (r :: rs) H' Ho' → Z.D K Ho' x a →
      (W.bind (ct a) fun b => W.ite b (cf a) ⟨fun Ψ => ∀ H'' Ho'', Same Ho' Ho'' → Zs (r :: rs) H'' Ho'' → N' H'', fun _ _ _ q => q⟩).run (fun y => ∀ w H'' Ho'', Same Ho' Ho'' → Zs (r :: rs) H'' Ho'' → Z.D K Ho'' w y → N w H'') →
      g x (wipe σ vs) H' fun σ2 H2 => wipe σ2 vs = wipe σ vs ∧ tt σ2 H2 fun b H3 => if b = true then te σ2 H3 N else N' H3)
    (k : ∀ ys H' Ho', Same Ho Ho' → (f ys).run Φ → ∀ p ws, Zs ((p, .lst ws) :: rs) H' Ho' → DL K Ho' ws ys → Q (.ref p) H') : LcG g tt te vs σ Q J H := by
  intro Dn hD
  obtain ⟨hsz, hw⟩ := hw
  refine ⟨fun i m H => m = xs.length - i ∧ i ≤ xs.length ∧ ∃ (Ho' : Hp) (acc : List β) (acs : List V), Same Ho Ho' ∧ Zs ((Dn, .lst acs) :: rs) H Ho' ∧ DL K Ho' acs acc ∧ acs.length ≤ i ∧ (comp (xs.drop i) acc ct cf).run fun ys => (f ys).run Φ,
    ⟨xs.length, by simp, Nat.zero_le _, Ho, [], [], Same.refl _, z.root hD, .nil, Nat.le_refl _, hw⟩, ?_⟩
  rintro i m H ⟨rfl, hi, Ho', acc, acs, e', z', da, la, hw⟩
  have tr := T i _ H Ho' e' z' fun r hrr => List.mem_cons_of_mem _ (hr r hrr)
  by_cases hlt : i < xs.length
  · refine .inr ?_
    have hxi := List.getElem?_eq_getElem hlt
    obtain ⟨go, yl⟩ := tr.1 _ hxi
    refine ⟨go, fun H' => ∃ (Ho' : Hp) (acc : List β) (acs : List V), Same Ho Ho' ∧ Zs ((Dn, .lst acs) :: rs) H' Ho' ∧ DL K Ho' acs acc ∧ acs.length ≤ i + 1 ∧ (comp (xs.drop (i + 1)) acc ct cf).run fun ys => (f ys).run Φ, fun H' hN => ⟨xs.length - (i + 1), by omega, rfl, hlt, hN⟩, fun x H' y => ?_⟩
    obtain ⟨Ho2, e2, z2, dx⟩ := yl x H' y
    rw [drop_cons hxi] at hw
    refine hx (Dn, .lst acs) _ x H' Ho2 _ _ (e'.trans e2) (z2 _ z') dx ?_
    have hw : (ct xs[i]).run fun b => (W.ite b (W.bind (cf xs[i]) fun y => comp (xs.drop (i + 1)) (acc ++ [y]) ct cf) (comp (xs.drop (i + 1)) acc ct cf)).run fun ys => (f ys).run Φ := hw
    show (ct xs[i]).run _
    refine W.mono _ _ _ (fun b hb => ?_) hw
    refine ⟨fun e => ?_, fun e H'' Ho'' e3 z3 => ?_⟩
    · refine W.mono _ _ _ (fun y hy w H'' Ho'' e3 z3 dw => ?_) (hb.1 e)
      refine ⟨acs, z3.head, by omega, Ho'', acc ++ [y], acs ++ [w], (e'.trans e2).trans e3, z3.put, (DL.mo (DL.mo da e2) e3).push dw, ?_, hy⟩
      rw [List.length_append]
      exact Nat.succ_le_succ la
    · exact ⟨Ho'', acc, acs, (e'.trans e2).trans e3, z3, DL.mo (DL.mo da e2) e3, Nat.le_succ_of_le la, hb.2 e⟩
  · have e : i = xs.length := by omega
    subst e
    refine .inl ⟨tr.2 (Nat.le_refl _), ?_⟩
    rw [List.drop_length] at hw
    exact k acc H Ho' e' hw Dn acs z' da
theorem y_lcS {S : Type} {J : It} {xs : List α} {s0 : S} {body : α → S → W (Option β × S)} {f : List β × S → W γ} (z : Zs rs H Ho) (T : Trn K r0 J xs Ho) (hw : (W.bind (compSG xs s0 body) f).run Φ) (I : (Addr × HO) → S → Hp → Hp → Prop)
    (i0 : ∀ r H', Zs (r :: rs) H' Ho → I r s0 H' Ho)
    (iz : ∀ r s H' Ho', I r s H' Ho' → ∃ rs', Zs (r :: rs') H' Ho' ∧ ∀ q ∈ r0, q ∈ rs')
    (im : ∀ r s H' Ho' H'' Ho'', I r s H' Ho' → Same Ho' Ho'' → (∀ rs, Zs rs H' Ho' → Zs rs H'' Ho'') → I r s H'' Ho'')
    (ip : ∀ p o o' s H' Ho', NotTup o' → I (p, o) s H' Ho' → I (p, o') s (upd H' p o') Ho')
    (hx : ∀ (r : Addr × HO) a x s H' Ho' (N : VK) (N' : Hp → Prop), Same Ho Ho' → I r s H' Ho' → Z.D K Ho' x a →
      (body a s).run (fun q => match q.1 with | some y => ∀ w H'' Ho'', Same Ho' Ho'' → I r q.2 H'' Ho'' → Z.D K Ho'' w y → N w H'' | none => ∀ H'' Ho'', Same Ho' Ho'' → I r q.2 H'' Ho'' → N' H'') →
      g x (wipe σ vs) H' fun σ2 H2 => wipe σ2 vs = wipe σ vs ∧ tt σ2 H2 fun b H3 => if b = true then te σ2 H3 N else N' H3)
    (k : ∀ ys s p ws H' Ho', Same Ho Ho' → I (p, .lst ws) s H' Ho' → DL K Ho' ws ys → (f (ys, s)).run Φ → Q (.ref p) H') : LcG g tt te vs σ Q J H := by
  intro Dn hD
  obtain ⟨hsz, hw⟩ := hw
  refine ⟨fun i m H => m = xs.length - i ∧ i ≤ xs.length ∧ ∃ (Ho' : Hp) (acc : List β) (acs : List V) (s : S), Same Ho Ho' ∧ I (Dn, .lst acs) s H Ho' ∧ DL K Ho' acs acc ∧ acs.length ≤ i ∧ (compS (xs.drop i) acc s body).run fun q => (f q).run Φ,
    ⟨xs.length, by simp, Nat.zero_le _, Ho, [], [], s0, Same.refl _, i0 _ _ (z.root hD), .nil, Nat.le_refl _, hw⟩, ?_⟩
  rintro i m H ⟨rfl, hi, Ho', acc, acs, s, e', hI, da, la, hw⟩
  obtain ⟨rs', z', sub⟩ := iz _ _ _ _ hI
  have tr := T i _ H Ho' e' z' fun r hrr => List.mem_cons_of_mem _ (sub r hrr)
  by_cases hlt : i < xs.length
  · refine .inr ?_
    have hxi := List.getElem?_eq_getElem hlt
    obtain ⟨go, yl⟩ := tr.1 _ hxi
    refine ⟨go, fun H' => ∃ (Ho' : Hp) (acc : List β) (acs : List V) (s : S), Same Ho Ho' ∧ I (Dn, .lst acs) s H' Ho' ∧ DL K Ho' acs acc ∧ acs.length ≤ i + 1 ∧ (compS (xs.drop (i + 1)) acc s body).run fun q => (f q).run Φ, fun H' hN => ⟨xs.length - (i + 1), by omega, rfl, hlt, hN⟩, fun x H' y => ?_⟩
    obtain ⟨Ho2, e2, z2, dx⟩ := yl x H' y
    rw [drop_cons hxi] at hw
    refine hx (Dn, .lst acs) _ x s H' Ho2 _ _ (e'.trans e2) (im _ _ _ _ _ _ hI e2 z2) dx ?_
    refine W.mono _ _ _ (fun q hq => ?_) (show (body xs[i] s).run _ from hw)
    obtain ⟨o, s'⟩ := q
    cases o with
    | some y =>
      intro w H'' Ho'' e3 hI3 dw
      obtain ⟨rs3, z3, _⟩ := iz _ _ _ _ hI3
      refine ⟨acs, z3.head, by omega, Ho'', acc ++ [y], acs ++ [w], s', (e'.trans e2).trans e3, ip _ _ _ _ _ _ trivial hI3, (DL.mo (DL.mo da e2) e3).push dw, ?_, hq⟩
      rw [List.length_append]
      exact Nat.succ_le_succ la
    | none =>
      intro H'' Ho'' e3 hI3
      exact ⟨Ho'', acc, acs, s', (e'.trans e2).trans e3, hI3, DL.mo (DL.mo da e2) e3, Nat.le_succ_of_le la, hq⟩
  · have e : i = xs.length := by omega
    subst e
    refine .inl ⟨tr.2 (Nat.le_refl _), ?_⟩
    rw [List.drop_length] at hw
    exact k acc s Dn acs H Ho' e' hI da hw
/-! ### where ways meet -/
theorem y_join {ρ β : Type} {a : Bool} {c1 c2 : W β} {f : β → W γ} {X Y : Prop} {Q : ρ → Hp → Prop} (hw : (W.bind (W.ite a c1 c2) f).run Φ) (J : β → ρ → Hp → Prop)
    (h1 : a = true → (∀ r v H', J r v H' → (f r).run Φ → Q v H') → (W.bind c1 f).run Φ → X)
    (h2 : a = false → (∀ r v H', J r v H' → (f r).run Φ → Q v H') → (W.bind c2 f).run Φ → Y)
    (k : ∀ r v H', J r v H' → (f r).run Φ → Q v H') : if a = true then X else Y := by
  cases a with
  | true => exact iteT (h1 rfl k (hw.1 rfl))
  | false => exact iteF (h2 rfl k (hw.2 rfl))
/-- both ways are total and lay nothing down -/
theorem y_andP {a : Bool} (b : Bool) {X : Prop} {Q : Bool → Hp → Prop} (h : a = true → Q b H → X) (k : Q (a && b) H) : if a = true then X else Q false H := by
  cases a with
  | true => exact iteT (h rfl k)
  | false => exact iteF k
theorem y_orP {a : Bool} (b : Bool) {X : Prop} {Q : Bool → Hp → Prop} (h : a = false → Q b H → X) (k : Q (a || b) H) : if a = true then Q true H else X := by
  cases a with
  | true => exact iteT k
  | false => exact iteF (h rfl k)
theorem y_andPV {a : Bool} (b : Bool) {X : Prop} (h : a = true → Q (.bl b) H → X) (k : Q (.bl (a && b)) H) : if a = true then X else Q (.bl false) H := by
  cases a with
  | true => exact iteT (h rfl k)
  | false => exact iteF k
theorem y_orPV {a : Bool} (b : Bool) {X : Prop} (h : a = false → Q (.bl b) H → X) (k : Q (.bl (a || b)) H) : if a = true then Q (.bl true) H else X := by
  cases a with
  | true => exact iteT k
  | false => exact iteF (h rfl k)
/-! ### errors -/
def ExP {α : Type} (N : α → Prop) (R : Er → Prop) : Ex α → Prop
  | .ok a => N a
  | .er e => R e
theorem exP_ok {α : Type} {N : α → Prop} {R : Er → Prop} {a : α} (h : ExP N R (.ok a)) : N a := h
theorem exP_er {α : Type} {N : α → Prop} {R : Er → Prop} {e : Er} (h : ExP N R (.er e)) : R e := h
def W.exm {α β : Type} (c : W (Ex α)) (f : α → W β) (g : Er → W β) : W β := W.bind c fun r => match r with
  | .ok a => f a
  | .er e => g e
/-- where nothing may be raised -/
def W.sure {α : Type} (c : W (Ex α)) : W α := W.exm c W.ret fun _ => W.bad
theorem run_exm {α β : Type} {c : W (Ex α)} {f : α → W β} {g : Er → W β} {Φ : β → Prop} (h : (W.exm c f g).run Φ) : c.run (ExP (fun a => (f a).run Φ) fun e => (g e).run Φ) :=
  W.mono _ _ _ (fun r hr => by cases r with | ok a => exact hr | er e => exact hr) h
theorem exm_run {α β : Type} {c : W (Ex α)} {f : α → W β} {g : Er → W β} {Φ : β → Prop} (h : c.run (ExP (fun a => (f a).run Φ) fun e => (g e).run Φ)) : (W.exm c f g).run Φ :=
  c.mono (ExP (fun a => (f a).run Φ) fun e => (g e).run Φ) _ (fun r hr => by cases r with | ok a => exact hr | er e => exact hr) h
theorem run_sure {α β : Type} {c : W (Ex α)} {f : α → W β} {Φ : β → Prop} (h : (W.bind (W.sure c) f).run Φ) : c.run (ExP (fun a => (f a).run Φ) fun _ => False) := run_exm h
theorem y_callS {sp : Sp} {E : L2.St → XK} {ts : TA} (k : ts σ H fun vs H1 => sp vs H1 Q (E σ)) : tCallS sp E ts σ H Q := k
def tRaise (C : Addr) (Wx : WX) : TS := fun _ σ H => Wx (.ref C) none σ H
theorem y_raise {C : Addr} {Wx : WX} {w : TS} {D : Ends} (k : Wx (.ref C) none σ H) : tSeq (tRaise C Wx) w D σ H := k
def tTryAs (K : PySem.W.Frag) (c : Value) (i : Nat) (tb : WX → TS) (ts : Addr → Value → Option Addr → TS) (Wout : WX) : TS := fun D σ H => tb (wAs K c i ts Wout D) D σ H
def tTryOnly (K : PySem.W.Frag) (c : Value) (tb : WX → TS) (ts : Addr → Value → Option Addr → TS) (Wout : WX) : TS := fun D σ H => tb (wOnly K c ts Wout D) D σ H
variable {cl : Nat → Addr} {Wout : WX} {D : Ends} {u1 : TS} {i : Nat}
theorem y_tryJ {S : Type} {c : Value} {cb : W (Ex S)} {cs : Er → W S} {f : S → W γ} {tb : WX → TS} {ts : Addr → Value → Option Addr → TS} {sub : Nat → Bool} (σ' : Addr → L2.St) (hm : ∀ n, PySem.W.exmOne K (.ref (cl n)) c = some (sub n)) (z : Zs rs H Ho)
    (hw : (W.bind (W.exm cb W.ret fun e => W.guard (sub e.cls = true) (cs e)) f).run Φ) (J : S → L2.St → Hp → Hp → Prop) (hσ : ∀ a, σ.set i (some (.ref a)) = σ' a)
    (hb : ∀ (Wx : WX) (N : L2.St → Hp → Prop), cb.run (ExP (fun s => ∀ σ' H'' Ho'', Same Ho Ho'' → J s σ' H'' Ho'' → N σ' H'') fun e => ∀ H' Ho', Same Ho Ho' → Zs rs H' Ho' → Wx (.ref (cl e.cls)) none σ H') → tb Wx { D with nx := N } σ H)
    (hs : ∀ e a H' Ho' (N : L2.St → Hp → Prop), Same Ho Ho' → Zs rs H' Ho' → H' a = none → (cs e).run (fun s => ∀ σ' H'' Ho'', Same Ho' Ho'' → J s σ' H'' Ho'' → N σ' H'') →
      ts a (.ref (cl e.cls)) none { nx := fun σ' H' => N (σ'.set i none) H', rt := D.rt, bk := fun σ' H' => D.bk (σ'.set i none) H', ct := fun σ' H' => D.ct (σ'.set i none) H' } (σ' a) H')
    (k : ∀ s σ' H' Ho', Same Ho Ho' → J s σ' H' Ho' → (f s).run Φ → u1 D σ' H') : tSeq (tTryAs K c i tb ts Wout) u1 D σ H := by
  refine hb _ _ (W.mono _ _ _ (fun r hr => ?_) (run_exm hw))
  cases r with
  | ok s => exact fun σ' H' Ho' e j => k s σ' H' Ho' e j hr
  | er r =>
    refine fun H' Ho' e z' => ⟨true, by rw [hm, hr.1], fun _ a ha => ?_, fun q => nomatch q⟩
    rw [hσ]
    exact hs r a H' Ho' (u1 D) e z' ha (W.mono _ _ _ (fun s hs σ' H'' Ho'' e'' j => k s σ' H'' Ho'' (e.trans e'') j hs) hr.2)
theorem y_tryOJ {S : Type} {c : Value} {cb : W (Ex S)} {cs : Er → W S} {f : S → W γ} {tb : WX → TS} {ts : Addr → Value → Option Addr → TS} {sub : Nat → Bool} (hm : ∀ n, PySem.W.exmOne K (.ref (cl n)) c = some (sub n)) (z : Zs rs H Ho)
    (hw : (W.bind (W.exm cb W.ret fun e => W.guard (sub e.cls = true) (cs e)) f).run Φ) (J : S → L2.St → Hp → Hp → Prop)
    (hb : ∀ (Wx : WX) (N : L2.St → Hp → Prop), cb.run (ExP (fun s => ∀ σ' H'' Ho'', Same Ho Ho'' → J s σ' H'' Ho'' → N σ' H'') fun e => ∀ H' Ho', Same Ho Ho' → Zs rs H' Ho' → Wx (.ref (cl e.cls)) none σ H') → tb Wx { D with nx := N } σ H)
    (hs : ∀ e a H' Ho' (N : L2.St → Hp → Prop), Same Ho Ho' → Zs rs H' Ho' → H' a = none → (cs e).run (fun s => ∀ σ' H'' Ho'', Same Ho' Ho'' → J s σ' H'' Ho'' → N σ' H'') → ts a (.ref (cl e.cls)) none { D with nx := N } σ H')
    (k : ∀ s σ' H' Ho', Same Ho Ho' → J s σ' H' Ho' → (f s).run Φ → u1 D σ' H') : tSeq (tTryOnly K c tb ts Wout) u1 D σ H := by
  refine hb _ _ (W.mono _ _ _ (fun r hr => ?_) (run_exm hw))
  cases r with
  | ok s => exact fun σ' H' Ho' e j => k s σ' H' Ho' e j hr
  | er r =>
    refine fun H' Ho' e z' => ⟨true, by rw [hm, hr.1], fun _ a ha => ?_, fun q => nomatch q⟩
    exact hs r a H' Ho' (u1 D) e z' ha (W.mono _ _ _ (fun s hs σ' H'' Ho'' e'' j => k s σ' H'' Ho'' (e.trans e'') j hs) hr.2)
/-! ### built-ins by values -/
def rLenZ (K : PySem.W.Frag) : List V → Hp → VK → Prop := fun xs H Q => ∃ p ys, xs = [.ref p] ∧ (SqL K H p ys ∨ SqT K H p ys) ∧ Q (.int ys.length) H
def rListZ (K : PySem.W.Frag) : List V → Hp → VK → Prop := fun xs H Q => ∃ p ys, xs = [.ref p] ∧ (SqL K H p ys ∨ SqT K H p ys) ∧ ∀ l, H l = none → Q (.ref l) (upd H l (.lst ys))
theorem y_len {xs : List α} (d : LV K rs Ho v xs) (z : Zs rs H Ho) (k : Q (.int (xs.length : Int)) H) : rLenZ K [v] H Q := by
  obtain ⟨p, vs, rfl, d, s⟩ := LV.rd d z
  refine ⟨p, vs, rfl, .inl s, ?_⟩
  rw [d.len]
  exact k
theorem y_list {xs : List α} (d : LV K rs Ho v xs) (z : Zs rs H Ho) (k : ∀ H' p ws, Zs ((p, .lst ws) :: rs) H' Ho → DL K Ho ws xs → Q (.ref p) H') : rListZ K [v] H Q := by
  obtain ⟨p, vs, rfl, d, s⟩ := LV.rd d z
  exact ⟨p, vs, rfl, .inl s, fun q hq => k _ q _ (z.root hq) d⟩
theorem y_abs {a : Int} (k : Q (.int (if a < 0 then -a else a)) H) : (fun xs H Q => ∃ i, xs = [.int i] ∧ Q (.int (if i < 0 then -i else i)) H : List V → Hp → VK → Prop) [.int a] H Q := ⟨a, rfl, k⟩
theorem y_intB {a : Bool} (k : Q (.int (if a then 1 else 0)) H) : (fun xs H Q => (∃ i, xs = [.int i] ∧ Q (.int i) H) ∨ ∃ k, xs = [.bl k] ∧ Q (.int (if k then 1 else 0)) H : List V → Hp → VK → Prop) [.bl a] H Q := .inr ⟨a, rfl, k⟩
theorem y_min2 {a b : Int} (k : Q (.int (if b < a then b else a)) H) : (fun xs H Q => ∃ i j, xs = [.int i, .int j] ∧ Q (.int (if j < i then j else i)) H : List V → Hp → VK → Prop) [.int a, .int b] H Q := ⟨a, b, rfl, k⟩
theorem y_max2 {a b : Int} (k : Q (.int (if b > a then b else a)) H) : (fun xs H Q => ∃ i j, xs = [.int i, .int j] ∧ Q (.int (if j > i then j else i)) H : List V → Hp → VK → Prop) [.int a, .int b] H Q := ⟨a, b, rfl, k⟩
theorem y_all {xs : List Bool} (d : LV K rs Ho v xs) (z : Zs rs H Ho) (k : Q (.bl (xs.all id)) H) : rAll K [v] H Q := by
  obtain ⟨p, vs, rfl, d, s⟩ := LV.rd d z
  rw [dl_bools d] at s
  exact ⟨p, xs, rfl, s, k⟩
theorem y_any {xs : List Bool} (d : LV K rs Ho v xs) (z : Zs rs H Ho) (k : Q (.bl (xs.any id)) H) : rAny K [v] H Q := by
  obtain ⟨p, vs, rfl, d, s⟩ := LV.rd d z
  rw [dl_bools d] at s
  exact ⟨p, xs, rfl, s, k⟩
theorem y_sum {xs : List Int} (d : LV K rs Ho v xs) (z : Zs rs H Ho) (k : Q (.int xs.sum) H) : rSum K [v] H Q := by
  obtain ⟨p, vs, rfl, d, s⟩ := LV.rd d z
  rw [dl_ints d] at s
  exact ⟨p, xs, rfl, s, k⟩
def srtI (xs : List Int) : List Int := xs.mergeSort fun a b => decide (a ≤ b)
theorem srtI_perm (xs : List Int) : (srtI xs).Perm xs := List.mergeSort_perm xs _
theorem srtI_srt (xs : List Int) : (srtI xs).Pairwise (· ≤ ·) := by
  have h := List.pairwise_mergeSort (le := fun a b : Int => decide (a ≤ b)) (fun a b c h1 h2 => by simp at h1 h2 ⊢; omega) (fun a b => by simp; omega) xs
  exact h.imp fun h => of_decide_eq_true h
theorem srtI_of {xs ys : List Int} (h : ys.Perm xs) (hs : ys.Pairwise (· ≤ ·)) : ys = srtI xs :=
  List.Perm.eq_of_pairwise (le := (· ≤ ·)) (fun a b _ _ h1 h2 => Int.le_antisymm h1 h2) hs (srtI_srt xs) (h.trans (srtI_perm xs).symm)
theorem y_sortI {xs : List Int} (d : LV K rs Ho v xs) (z : Zs rs H Ho) (k : ∀ H' p ws, Zs ((p, .lst ws) :: rs) H' Ho → DL K Ho ws (srtI xs) → Q (.ref p) H') : rSortedI K [v] H Q := by
  obtain ⟨p, vs, rfl, d, s⟩ := LV.rd d z
  rw [dl_ints d] at s
  refine ⟨p, xs, rfl, s, fun ns' q hp hs hq => ?_⟩
  rw [srtI_of hp hs]
  exact k _ q _ (z.root hq) ints_dl
def mxD (ns : List Int) (d : Int) : Int := match ns with
  | [] => d
  | x :: xs => xs.foldl (fun a y => if decide (a < y) = true then y else a) x
def mnD (ns : List Int) (d : Int) : Int := match ns with
  | [] => d
  | x :: xs => xs.foldl (fun a y => if decide (y < a) = true then y else a) x
def rMxD (K : PySem.W.Frag) : List V → List V → Hp → VK → Prop := fun vs zs H Q => ∃ (a : Addr) (ns : List Int) (d : Int), vs = [V.ref a] ∧ zs = [V.int d] ∧ SqL K H a (ns.map V.int) ∧ Q (.int (mxD ns d)) H
def rMnD (K : PySem.W.Frag) : List V → List V → Hp → VK → Prop := fun vs zs H Q => ∃ (a : Addr) (ns : List Int) (d : Int), vs = [V.ref a] ∧ zs = [V.int d] ∧ SqL K H a (ns.map V.int) ∧ Q (.int (mnD ns d)) H
theorem hold_ints {h : Heap} : ∀ {ns : List Int} {us : List Value}, Vals (ns.map V.int) us → PySem.W.HoldAll h us ns
  | [], us, r => by cases r; exact PySem.W.HoldAll.nil
  | n :: ns, us, r => by
    cases r with
    | cons r1 r2 =>
      obtain ⟨t, rfl⟩ := r1
      exact PySem.W.HoldAll.cons (PySem.W.holds_int n t) (hold_ints r2)
theorem zmxD {X : Cx} {K : PySem.W.Frag} (hK : X.K = K) (hc : X.calm = true) (hu : X.A.units + 64 < cLine) : CallRK X (.builtin "max") [Str.ofString "default"] (rMxD K) := by
  subst hK
  intro pins s σ H vs zs us ws Q I r rz h
  obtain ⟨a, ns, d, rfl, rfl, hs, q⟩ := h
  obtain rfl := Vals.ref1 r
  obtain ⟨w1, rfl, t, rfl⟩ := vals1 rz
  obtain ⟨its, rv, hl, hz⟩ := I.list hs
  refine PySem.W.max_list_datum_default (α := Int) (I.ok.hd hc) hl.isList (hold_ints rv) (by show X.A.units + 1 + 0 < cLine; omega) (fun e h' tk k => ⟨.int d, H, I.kept (t' := tk) k, ⟨t, rfl⟩, ?_⟩) fun y ys i v h' tk e hi hh k => ?_
  · subst e; exact q
  · subst e
    obtain ⟨t', rfl⟩ := PySem.W.int_of_holds hh
    exact ⟨.int _, H, I.kept (t' := tk) k, ⟨t', rfl⟩, q⟩
theorem zmnD {X : Cx} {K : PySem.W.Frag} (hK : X.K = K) (hc : X.calm = true) (hu : X.A.units + 64 < cLine) : CallRK X (.builtin "min") [Str.ofString "default"] (rMnD K) := by
  subst hK
  intro pins s σ H vs zs us ws Q I r rz h
  obtain ⟨a, ns, d, rfl, rfl, hs, q⟩ := h
  obtain rfl := Vals.ref1 r
  obtain ⟨w1, rfl, t, rfl⟩ := vals1 rz
  obtain ⟨its, rv, hl, hz⟩ := I.list hs
  refine PySem.W.min_list_datum_default (α := Int) (I.ok.hd hc) hl.isList (hold_ints rv) (by show X.A.units + 1 + 0 < cLine; omega) (fun e h' tk k => ⟨.int d, H, I.kept (t' := tk) k, ⟨t, rfl⟩, ?_⟩) fun y ys i v h' tk e hi hh k => ?_
  · subst e; exact q
  · subst e
    obtain ⟨t', rfl⟩ := PySem.W.int_of_holds hh
    exact ⟨.int _, H, I.kept (t' := tk) k, ⟨t', rfl⟩, q⟩
theorem y_ckw {r : List V → List V → Hp → VK → Prop} {ts tk : TA} (k : ts σ H fun vs H1 => tk σ H1 fun zs H2 => r vs zs H2 Q) : tCKw r ts tk σ H Q := k
theorem y_mxD {xs : List Int} {a : Int} (d : LV K rs Ho v xs) (z : Zs rs H Ho) (k : Q (.int (mxD xs a)) H) : rMxD K [v] [.int a] H Q := by
  obtain ⟨p, vs, rfl, d, s⟩ := LV.rd d z
  rw [dl_ints d] at s
  exact ⟨p, xs, a, rfl, rfl, s, k⟩
theorem y_mnD {xs : List Int} {a : Int} (d : LV K rs Ho v xs) (z : Zs rs H Ho) (k : Q (.int (mnD xs a)) H) : rMnD K [v] [.int a] H Q := by
  obtain ⟨p, vs, rfl, d, s⟩ := LV.rd d z
  rw [dl_ints d] at s
  exact ⟨p, xs, a, rfl, rfl, s, k⟩
/-- min, max of a list that is not empty -/
def mxL (xs : List Int) : W Int := W.guard (0 < xs.length) (W.ret (mxD xs 0))
def mnL (xs : List Int) : W Int := W.guard (0 < xs.length) (W.ret (mnD xs 0))
theorem mxF : ∀ (xs : List Int) (x : Int), (xs.foldl (fun a y => if decide (a < y) = true then y else a) x) ∈ x :: xs ∧ ∀ y ∈ x :: xs, y ≤ xs.foldl (fun a y => if decide (a < y) = true then y else a) x
  | [], x => by simp
  | y :: ys, x => by
    have ih := mxF ys (if decide (x < y) = true then y else x)
    simp only [List.foldl_cons]
    generalize hr : ys.foldl (fun a y => if decide (a < y) = true then y else a) (if decide (x < y) = true then y else x) = r at ih
    obtain ⟨h1, h2⟩ := ih
    by_cases c : x < y
    · simp only [decide_eq_true c, if_true] at h1 h2
      refine ⟨List.mem_cons_of_mem _ h1, fun z hz => ?_⟩
      rcases List.mem_cons.mp hz with rfl | hz
      · have := h2 y List.mem_cons_self; omega
      · exact h2 z hz
    · simp only [decide_eq_false c, Bool.false_eq_true, if_false] at h1 h2
      refine ⟨?_, fun z hz => ?_⟩
      · rcases List.mem_cons.mp h1 with h | h
        · rw [h]; exact List.mem_cons_self
        · exact List.mem_cons_of_mem _ (List.mem_cons_of_mem _ h)
      · rcases List.mem_cons.mp hz with rfl | hz
        · exact h2 _ List.mem_cons_self
        · rcases List.mem_cons.mp hz with rfl | hz
          · have := h2 x List.mem_cons_self; omega
          · exact h2 z (List.mem_cons_of_mem _ hz)
theorem mnF : ∀ (xs : List Int) (x : Int), (xs.foldl (fun a y => if decide (y < a) = true then y else a) x) ∈ x :: xs ∧ ∀ y ∈ x :: xs, xs.foldl (fun a y => if decide (y < a) = true then y else a) x ≤ y
  | [], x => by simp
  | y :: ys, x => by
    have ih := mnF ys (if decide (y < x) = true then y else x)
    simp only [List.foldl_cons]
    generalize hr : ys.foldl (fun a y => if decide (y < a) = true then y else a) (if decide (y < x) = true then y else x) = r at ih
    obtain ⟨h1, h2⟩ := ih
    by_cases c : y < x
    · simp only [decide_eq_true c, if_true] at h1 h2
      refine ⟨List.mem_cons_of_mem _ h1, fun z hz => ?_⟩
      rcases List.mem_cons.mp hz with rfl | hz
      · have := h2 y List.mem_cons_self; omega
      · exact h2 z hz
    · simp only [decide_eq_false c, Bool.false_eq_true, if_false] at h1 h2
      refine ⟨?_, fun z hz => ?_⟩
      · rcases List.mem_cons.mp h1 with h | h
        · rw [h]; exact List.mem_cons_self
        · exact List.mem_cons_of_mem _ (List.mem_cons_of_mem _ h)
      · rcases List.mem_cons.mp hz with rfl | hz
        · exact h2 _ List.mem_cons_self
        · rcases List.mem_cons.mp hz with rfl | hz
          · have := h2 x List.mem_cons_self; omega
          · exact h2 z (List.mem_cons_of_mem _ hz)
theorem y_mxL {xs : List Int} (d : LV K rs Ho v xs) (z : Zs rs H Ho) (hg : 0 < xs.length) (k : Q (.int (mxD xs 0)) H) : rMax K [v] H Q := by
  obtain ⟨p, vs, rfl, d, s⟩ := LV.rd d z
  rw [dl_ints d] at s
  refine ⟨p, xs, rfl, s, hg, fun m hm hy => ?_⟩
  cases xs with
  | nil => simp at hg
  | cons x xs =>
    have q := mxF xs x
    have e : mxD (x :: xs) 0 = m := Int.le_antisymm (hy _ q.1) (q.2 _ hm)
    rw [← e]; exact k
theorem y_mnL {xs : List Int} (d : LV K rs Ho v xs) (z : Zs rs H Ho) (hg : 0 < xs.length) (k : Q (.int (mnD xs 0)) H) : rMin K [v] H Q := by
  obtain ⟨p, vs, rfl, d, s⟩ := LV.rd d z
  rw [dl_ints d] at s
  refine ⟨p, xs, rfl, s, hg, fun m hm hy => ?_⟩
  cases xs with
  | nil => simp at hg
  | cons x xs =>
    have q := mnF xs x
    have e : mnD (x :: xs) 0 = m := Int.le_antisymm (q.2 _ hm) (hy _ q.1)
    rw [← e]; exact k
end
end Z

/-! # sorted lists of tuples of ints, any number of them -/
namespace Z
open PySem PySem.Spec PyProof.Rows L2
theorem DL.item {α : Type} [Py α] {K : PySem.W.Frag} {vs : List V} {xs : List α} {i : Nat} {v : V} {H : Hp} (h : DL K H vs xs) (e : vs[i]? = some v) : ∃ x, xs[i]? = some x ∧ D K H v x := by
  have hi : i < xs.length := by rw [← h.len]; exact (List.getElem?_eq_some_iff.mp e).1
  obtain ⟨w, ew, dw⟩ := h.get (List.getElem?_eq_getElem hi)
  rw [e] at ew
  cases ew
  exact ⟨_, List.getElem?_eq_getElem hi, dw⟩
def lexL : List Int → List Int → Bool
  | [], [] => false
  | [], _ :: _ => true
  | _ :: _, [] => false
  | x :: xs, y :: ys => if x = y then lexL xs ys else decide (x < y)
theorem lexL_asym : ∀ a b : List Int, lexL a b = true → lexL b a = false
  | [], [], h => nomatch h
  | [], _ :: _, _ => rfl
  | _ :: _, [], h => nomatch h
  | x :: xs, y :: ys, h => by
    have h : (if x = y then lexL xs ys else decide (x < y)) = true := h
    show (if y = x then lexL ys xs else decide (y < x)) = false
    by_cases e : x = y
    · rw [if_pos e] at h
      rw [if_pos e.symm]
      exact lexL_asym xs ys h
    · rw [if_neg e] at h
      rw [if_neg (fun q => e q.symm)]
      have := of_decide_eq_true h
      exact decide_eq_false (by omega)
theorem lexL_tr : ∀ a b c : List Int, lexL b a = false → lexL c b = false → lexL c a = false
  | [], b, c, _, h2 => by
    cases c with
    | nil => rfl
    | cons z zs => rfl
  | x :: xs, [], c, h1, _ => nomatch h1
  | x :: xs, y :: ys, [], _, h2 => nomatch h2
  | x :: xs, y :: ys, z :: zs, h1, h2 => by
    have h1 : (if y = x then lexL ys xs else decide (y < x)) = false := h1
    have h2 : (if z = y then lexL zs ys else decide (z < y)) = false := h2
    show (if z = x then lexL zs xs else decide (z < x)) = false
    by_cases e1 : y = x
    · subst e1
      rw [if_pos rfl] at h1
      by_cases e2 : z = y
      · rw [if_pos e2] at h2 ⊢
        exact lexL_tr xs ys zs h1 h2
      · rw [if_neg e2] at h2 ⊢
        exact h2
    · rw [if_neg e1] at h1
      have q1 := of_decide_eq_false h1
      by_cases e2 : z = y
      · subst e2
        rw [if_neg e1]; exact h1
      · rw [if_neg e2] at h2
        have q2 := of_decide_eq_false h2
        rw [if_neg (by omega)]
        exact decide_eq_false (by omega)
theorem lexL_tot : ∀ a b : List Int, lexL a b = false → lexL b a = false → a = b
  | [], [], _, _ => rfl
  | [], _ :: _, h, _ => nomatch h
  | _ :: _, [], _, h => nomatch h
  | x :: xs, y :: ys, h1, h2 => by
    have h1 : (if x = y then lexL xs ys else decide (x < y)) = false := h1
    have h2 : (if y = x then lexL ys xs else decide (y < x)) = false := h2
    by_cases e : x = y
    · subst e
      rw [if_pos rfl] at h1 h2
      rw [lexL_tot xs ys h1 h2]
    · rw [if_neg e] at h1
      rw [if_neg (fun q => e q.symm)] at h2
      have := of_decide_eq_false h1
      have := of_decide_eq_false h2
      omega
section
variable {prog : Program} {w : World} {A : Around} {E : Value → Shared → Prop} {s : Shared}
theorem kat_lexL {b : Bool} {ps qs : List Value} {is js : List Int} (n : Nat) (hp : IntsAre ps is) (hq : IntsAre qs js) (he : is.length = js.length) : PySem.W.KatLex prog w A b false (fun r t => t = s ∧ r = lexL is js) (ps.zip qs) n s := by
  induction hp generalizing qs js n with
  | nil =>
    cases hq with
    | nil => exact PySem.W.kat_nil ⟨rfl, rfl⟩
    | cons q u hq => simp at he
  | @cons i t ps is hp ih =>
    cases hq with
    | nil => simp at he
    | @cons j u qs js hq =>
      show PySem.W.KatLex prog w A b false _ ((Value.int i t, Value.int j u) :: ps.zip qs) n s
      refine PySem.W.kat_cons (wpAny_eqBool_int ?_)
      have el : lexL (i :: is) (j :: js) = if i = j then lexL is js else decide (i < j) := rfl
      by_cases e : i = j
      · subst e
        rw [if_pos rfl] at el
        rw [beq_self_eq_true, el]
        exact PySem.W.kat_yes (ih (n + 1) hq (by simpa using he))
      · rw [if_neg e] at el
        rw [show (i == j) = false from beq_eq_false_iff_ne.mpr e, el]
        exact PySem.W.kat_no (TS.oneLt_ints _ ⟨rfl, rfl⟩)
theorem tups_cmp {us : List Value} {k : Value → List Int} {d : Nat} (hp : ∀ v ∈ us, TS.TupInts s.heap v (k v) ∧ (k v).length = d) : SrtO.Cmp prog w A s (tuples' true) (fun p => p.1 ∈ us) (SrtO.lt2 fun v u => lexL (k v) (k u)) := by
  intro p q h1 h2
  obtain ⟨⟨a, xs, ea, ⟨o, ho, _, n, hd⟩, ia⟩, la⟩ := hp _ h1
  obtain ⟨⟨b, ys, eb, ⟨u, hu, _, m, hm⟩, ib⟩, lb⟩ := hp _ h2
  show wpAny (model prog w) A (keyLt' (tuples' true) p.1 q.1) (fun r t => t = s ∧ r = lexL (k p.1) (k q.1)) (fun _ _ => False) s
  have sz : xs.size = ys.size := by
    have q1 := ia.length
    have q2 := ib.length
    rw [Array.length_toList] at q1 q2
    omega
  generalize k p.1 = kp at ia la ⊢
  generalize k q.1 = kq at ib lb ⊢
  rw [ea, eb]
  refine PySem.W.kat_lt ho hd hu hm ?_
  rw [show decide (xs.size < ys.size) = false from decide_eq_false (by omega)]
  exact kat_lexL 0 ia ib (by omega)
theorem tups_firsts {h : Heap} {k : Value → List Int} {d : Nat} (h1 : 1 ≤ d) : ∀ us : List Value, (∀ v ∈ us, TS.TupInts h v (k v) ∧ (k v).length = d) → ∃ fs, PySem.W.KatTups h us fs ∧ fs.length = us.length ∧ ∀ f ∈ fs, ∃ i t, f = Value.int i t
  | [], _ => ⟨[], .nil, rfl, fun _ m => nomatch m⟩
  | v :: us, x => by
    obtain ⟨fs, kt, hl, hi⟩ := tups_firsts h1 us fun u hu => x u (List.mem_cons_of_mem _ hu)
    obtain ⟨⟨a, xs, ea, ⟨o, ho, hc, n, hdt⟩, ia⟩, la⟩ := x v List.mem_cons_self
    obtain ⟨ys⟩ := xs
    cases ys with
    | nil =>
      have l := ia.length
      rw [la] at l
      have l : 0 = d := l
      omega
    | cons y ys =>
      obtain ⟨m, t, hy⟩ := ia.all y List.mem_cons_self
      subst ea
      refine ⟨y :: fs, .cons ho hc hdt rfl kt, by simp [hl], fun f hf => ?_⟩
      rcases List.mem_cons.mp hf with rfl | hf
      · exact ⟨m, t, hy⟩
      · exact hi f hf
theorem tups_sortable {a : Addr} {us : List Value} {k : Value → List Int} {d : Nat} (h1 : 1 ≤ d) (h0 : 0 < us.length) (hp : ∀ v ∈ us, TS.TupInts s.heap v (k v) ∧ (k v).length = d) (ha : ∀ o, s.heap.get? a = some o → o.cls ≠ .type "tuple") :
    SrtO.SortableO prog w A s a us fun v u => lexL (k v) (k u) := by
  intro h' keep
  have hp' : ∀ v ∈ us, TS.TupInts h' v (k v) ∧ (k v).length = d := fun v m => ⟨(hp v m).1.keeps fun b o e c => keep b o (fun z => by subst z; exact ha o e c) e, (hp v m).2⟩
  obtain ⟨fs, q1, q2, q3⟩ := tups_firsts h1 us hp'
  refine ⟨tuples' true, fun Q E hq => ?_, tups_cmp hp'⟩
  refine PySem.W.kat_kind (T := .type "int") q1 (by omega) (fun f m => ?_) (by rfl) ?_
  · obtain ⟨x, t, rfl⟩ := q3 f m
    exact PySem.W.Looks.now
  · rw [show (Value.type "int" != Value.type "tuple") = true from by decide +kernel]
    exact hq
theorem swoL {α : Type} (k : α → List Int) : SrtO.Swo fun v u => lexL (k v) (k u) := ⟨fun x y => lexL_asym _ _, fun x y z => lexL_tr _ _ _⟩
end
/-- sorted(xs), xs a list of tuples of d ints -/
def rSortedL (K : PySem.W.Frag) (d : Nat) : List V → Hp → VK → Prop := fun vs H Q => ∃ (a : Addr) (xs : List V), vs = [V.ref a] ∧ SqL K H a xs ∧ (∀ x ∈ xs, ∃ ns, TupI K H x ns ∧ ns.length = d) ∧
  ∀ (ys : List V) (p : Addr), ys.Perm xs → ys.Pairwise (fun x y => ∀ n m, TupI K H x n → TupI K H y m → lexL m n = false) → H p = none → Q (.ref p) (upd H p (.lst ys))
theorem zsorted {X : Cx} {K : PySem.W.Frag} {d : Nat} (hK : X.K = K) (h1 : 1 ≤ d) : CallR X (.builtin "sorted") (rSortedL K d) := by
  subst hK
  intro pins s σ H vs us Q I r h
  obtain ⟨a, xs, rfl, hs, hx, q⟩ := h
  obtain ⟨its, rv, hl, hz⟩ := I.list hs
  rw [Vals.ref1 r]
  obtain ⟨e1, e2⟩ := bkV_refs rv fun x m => by
    obtain ⟨ns, ⟨t, e, _⟩, _⟩ := hx x m
    exact ⟨t, e⟩
  have raw : ∀ v ∈ its, TS.TupInts s.heap v (TS.intsOf s.heap v) ∧ (TS.intsOf s.heap v).length = d := by
    intro v hv
    obtain ⟨t, rfl⟩ := e2 v hv
    have hm : V.ref t ∈ xs := by rw [e1]; exact List.mem_map.mpr ⟨_, hv, rfl⟩
    obtain ⟨ns, ⟨t', e, ht⟩, hn⟩ := hx _ hm
    cases e
    have q1 := tupI_raw I ht
    rw [q1.ints]
    exact ⟨q1, hn⟩
  refine SrtO.sorted_ord (ltv := fun v u => lexL (TS.intsOf s.heap v) (TS.intsOf s.heap u)) (swoL _) hl.isList (by rw [← rv.length]; exact hz) (fun h2 h₁ b hb kk => ?_) fun out o1 o2 => ?_
  · refine tups_sortable (s := { s with heap := h₁ }) (k := TS.intsOf s.heap) h1 (by omega) (fun v hm => ⟨(raw v hm).1.keeps fun c o e _ => (kk c o e).2, (raw v hm).2⟩) fun o e => ?_
    have e' := e.symm.trans hb
    cases e'
    exact fun c => absurd (Value.type.inj c) (by decide)
  · have h3 : ∀ u ∈ out, ∃ b, u = Value.ref b := fun u hu => e2 u (o2.perm.mem_iff.mp hu)
    obtain ⟨n, hn⟩ := PyProof.Rows.sortedAll_at s.heap its out.toArray
    have hpm : (out.map bkV).Perm xs := by rw [e1]; exact o2.perm.map _
    refine ⟨.ref (s.heap.objs.size + 1), upd H (s.heap.objs.size + 1) (.lst (out.map bkV)), I.laid (t' := s.toks) (fun b o e => PyProof.Rows.sortedAll_old e) (Nat.le_succ _) ⟨?_, out, n, bkV_vals h3, hn⟩, rfl, q _ _ hpm ?_ (I.hok.fresh (Nat.le_succ _))⟩
    · rw [hpm.length_eq]; exact hz
    · rw [List.pairwise_map]
      refine List.Pairwise.imp (fun {u v} huv nn mm h4 h5 => ?_) o1
      obtain ⟨t1, g1, k1⟩ := h4
      obtain ⟨t2, g2, k2⟩ := h5
      have w1 := tupI_raw I k1
      have w2 := tupI_raw I k2
      rw [← bkV_ref g1] at w1
      rw [← bkV_ref g2] at w2
      rw [← w1.ints, ← w2.ints]
      exact huv
/-! ### by data -/
class Ktup (α : Type) [Py α] where
  key : α → List Int
  d : Nat
  pos : 1 ≤ d
  len : ∀ x, (key x).length = d
  py : ∀ x : α, toPy x = .tuple ((key x).map PyData.int)
  inj : ∀ x y, key x = key y → x = y
instance : Ktup (Int × Int) := ⟨fun x => [x.1, x.2], 2, by decide, fun _ => rfl, fun _ => rfl, fun x y h => by
  obtain ⟨a, b⟩ := x
  obtain ⟨c, d⟩ := y
  simpa using h⟩
instance : Ktup (P3 Int Int Int) := ⟨fun x => [x.a, x.b, x.c], 3, by decide, fun _ => rfl, fun _ => rfl, fun x y h => by
  obtain ⟨a, b, c⟩ := x
  obtain ⟨d, e, f⟩ := y
  simpa using h⟩
instance : Ktup (P4 Int Int Int Int) := ⟨fun x => [x.a, x.b, x.c, x.d], 4, by decide, fun _ => rfl, fun _ => rfl, fun x y h => by
  obtain ⟨a, b, c, d⟩ := x
  obtain ⟨e, f, g, i⟩ := y
  simpa using h⟩
section
variable {α : Type} [Py α] [Ktup α] {K : PySem.W.Frag} {H Ho : Hp}
def leK (x y : α) : Bool := !lexL (Ktup.key y) (Ktup.key x)
def srtK (xs : List α) : List α := xs.mergeSort leK
theorem leK_tr (x y z : α) (h1 : leK x y = true) (h2 : leK y z = true) : leK x z = true := by
  unfold leK at *
  simp only [Bool.not_eq_true'] at *
  exact lexL_tr _ _ _ h1 h2
theorem leK_tot (x y : α) : (leK x y || leK y x) = true := by
  unfold leK
  cases h : lexL (Ktup.key y) (Ktup.key x) with
  | false => rfl
  | true => rw [lexL_asym _ _ h]; rfl
theorem leK_anti (x y : α) (h1 : leK x y = true) (h2 : leK y x = true) : x = y := by
  unfold leK at *
  simp only [Bool.not_eq_true'] at *
  exact Ktup.inj _ _ (lexL_tot _ _ h2 h1)
theorem srt_uniq : ∀ {l m : List α}, l.Perm m → l.Pairwise (fun x y => leK x y = true) → m.Pairwise (fun x y => leK x y = true) → l = m
  | [], m, hp, _, _ => (List.Perm.nil_eq hp)
  | x :: l, [], hp, _, _ => absurd hp.length_eq (by simp)
  | x :: l, y :: m, hp, h1, h2 => by
    have e : x = y := by
      rcases List.mem_cons.mp (hp.mem_iff.mp (List.mem_cons_self (a := x) (l := l))) with e | hx
      · exact e
      rcases List.mem_cons.mp (hp.mem_iff.mpr (List.mem_cons_self (a := y) (l := m))) with e | hy
      · exact e.symm
      exact leK_anti x y ((List.pairwise_cons.mp h1).1 y hy) ((List.pairwise_cons.mp h2).1 x hx)
    subst e
    rw [srt_uniq hp.cons_inv (List.pairwise_cons.mp h1).2 (List.pairwise_cons.mp h2).2]
theorem srtK_perm (xs : List α) : (srtK xs).Perm xs := List.mergeSort_perm xs leK
theorem srtK_srt (xs : List α) : (srtK xs).Pairwise (fun x y => leK x y = true) := List.pairwise_mergeSort leK_tr leK_tot xs
theorem srtK_of {xs ys : List α} (h : ys.Perm xs) (hs : ys.Pairwise (fun x y => leK x y = true)) : ys = srtK xs := srt_uniq (h.trans (srtK_perm xs).symm) hs (srtK_srt xs)
theorem srtK_eq {xs ys : List α} (h : ys.Perm xs) : srtK ys = srtK xs := srtK_of ((srtK_perm ys).trans h) (srtK_srt ys)
theorem DL.perm {vs us : List V} (hp : us.Perm vs) : ∀ {xs : List α}, DL K H vs xs → ∃ ys, ys.Perm xs ∧ DL K H us ys := by
  induction hp with
  | nil => exact fun {xs} h => ⟨xs, List.Perm.refl _, h⟩
  | cons v _ ih =>
    intro xs h
    cases xs with
    | nil => cases h
    | cons x xs =>
      cases h with
      | cons h1 h2 =>
        obtain ⟨ys, p, q⟩ := ih h2
        exact ⟨x :: ys, p.cons x, .cons h1 q⟩
  | swap u v l =>
    intro xs h
    cases xs with
    | nil => cases h
    | cons x xs =>
      cases xs with
      | nil => cases h with | cons _ h2 => cases h2
      | cons y xs =>
        cases h with
        | cons h1 h2 =>
          cases h2 with
          | cons h2 h3 => exact ⟨y :: x :: xs, List.Perm.swap _ _ _, .cons h2 (.cons h1 h3)⟩
  | trans _ _ ih1 ih2 =>
    intro xs h
    obtain ⟨ys, p, q⟩ := ih2 h
    obtain ⟨zs, p2, q2⟩ := ih1 q
    exact ⟨zs, p2.trans p, q2⟩
theorem dints_all : ∀ {vs : List V} {is : List Int}, DqAll K H vs (is.map PyData.int) → vs = is.map V.int
  | vs, [], h => by cases h; rfl
  | vs, i :: is, h => by
    cases h with
    | cons h1 h2 =>
      cases h1
      rw [dints_all h2]; rfl
theorem tupI_of {v : V} {x : α} (h : D K H v x) : TupI K H v (Ktup.key x) := by
  have h : Dq K H v (toPy x) := h
  rw [Ktup.py] at h
  cases h with
  | tup hs ha =>
    rw [dints_all ha] at hs
    exact ⟨_, rfl, SqT.of hs⟩
theorem dl_pw {us : List V} : ∀ {ys : List α}, DL K H us ys → us.Pairwise (fun x y => ∀ n m, TupI K H x n → TupI K H y m → lexL m n = false) → ys.Pairwise (fun x y => leK x y = true) := by
  induction us with
  | nil =>
    intro ys h _
    cases ys with
    | nil => exact .nil
    | cons y ys => cases h
  | cons u us ih =>
    intro ys h hp
    cases ys with
    | nil => cases h
    | cons y ys =>
      cases h with
      | cons h1 h2 =>
        obtain ⟨p1, p2⟩ := List.pairwise_cons.mp hp
        refine List.pairwise_cons.mpr ⟨fun z hz => ?_, ih h2 p2⟩
        obtain ⟨i, hi⟩ := List.mem_iff_getElem?.mp hz
        obtain ⟨t, ht, dt⟩ := DL.get h2 hi
        have q := p1 t (List.mem_of_getElem? ht) _ _ (tupI_of h1) (tupI_of dt)
        unfold leK
        rw [q]; rfl
theorem y_sortK {rs : List (Addr × HO)} {v : V} {Q : VK} {xs : List α} (d1 : LV K rs Ho v xs) (z : Zs rs H Ho) (k : ∀ H' p ws, Zs ((p, .lst ws) :: rs) H' Ho → DL K Ho ws (srtK xs) → Q (.ref p) H') : rSortedL K (Ktup.d α) [v] H Q := by
  obtain ⟨p, vs, rfl, d, s⟩ := LV.rd d1 z
  have dH : DL K H vs xs := DL.mo d z.le
  refine ⟨p, vs, rfl, s, fun u hu => ?_, fun us q hp hpw hq => ?_⟩
  · obtain ⟨i, hi⟩ := List.mem_iff_getElem?.mp hu
    obtain ⟨y, hy, dy⟩ := DL.item dH hi
    exact ⟨_, tupI_of dy, Ktup.len y⟩
  · obtain ⟨ys, pe, dy⟩ := DL.perm hp d
    have dyH : DL K H us ys := DL.mo dy z.le
    have e : ys = srtK xs := srtK_of pe (dl_pw dyH hpw)
    subst e
    exact k _ q us (z.root hq) dy
end
section
variable {K : PySem.W.Frag} {rs : List (Addr × HO)} {H Ho : Hp} {α β γ δ : Type} [Py α] [Py β] [Py γ] [Py δ] {v u : V} {Q : VK}
theorem y_cat22 {a : α × β} {b : γ × δ} (d1 : D K Ho v a) (d2 : D K Ho u b) (z : Zs rs H Ho) (k : ∀ p H' Ho', Same Ho Ho' → Zs rs H' Ho' → D K Ho' (.ref p) (⟨a.1, a.2, b.1, b.2⟩ : P4 α β γ δ) → Q (.ref p) H') : rCatT K v u H Q := by
  cases d1 with
  | tup hs ha =>
    cases d2 with
    | tup ht hb =>
      cases ha with
      | cons a1 a2 =>
        cases a2 with
        | cons a2 a3 =>
          cases a3
          cases hb with
          | cons b1 b2 =>
            cases b2 with
            | cons b2 b3 =>
              cases b3
              refine ⟨_, _, _, _, rfl, rfl, SqT.of (z.le _ _ hs), SqT.of (z.le _ _ ht), by simp, by show 4 ≤ sizeLine; decide, fun e => (nomatch e), fun _ q hq => ?_⟩
              exact k _ _ _ (Same.new (z.free hq)) (z.alloc hq) (.tup upd_same (.cons (dp_mono (Same.new (z.free hq)) _ _ a1) (.cons (dp_mono (Same.new (z.free hq)) _ _ a2) (.cons (dp_mono (Same.new (z.free hq)) _ _ b1) (.cons (dp_mono (Same.new (z.free hq)) _ _ b2) .nil)))))
end
theorem zop_catT {X : Cx} {K : PySem.W.Frag} (hK : X.K = K) : OpR X (binaryOp .Add) (rCatT K) := hK ▸ op_catT
end Z

/-! # Y4: the machine's rules, the written part by its own letter; isinstance -/
namespace Z
open PySem PySem.Spec PyProof.Rows L2
section
variable {α : Type} [Py α]
/-! ### isinstance: the kind is known -/
class Kin (β : Type) [Py β] where
  ty : String
  ok : ∀ {K : PySem.W.Frag} {H : Hp} {v : V} {x : β}, D K H v x → TyX K H v (.type ty)
theorem tyx_list {K : PySem.W.Frag} {H : Hp} {p : Addr} {vs : List V} (h : SqL K H p vs) : TyX K H (.ref p) (.type "list") := by
  rcases h with (h | ⟨o, h⟩) | ⟨o, its, n, h, hc, _⟩
  · exact .base (.lst h)
  · exact .base (.frz h)
  · exact .kList h hc
theorem tyx_tup {K : PySem.W.Frag} {H : Hp} {p : Addr} {vs : List V} (h : SqT K H p vs) : TyX K H (.ref p) (.type "tuple") := by
  rcases h with (h | ⟨o, h⟩) | ⟨o, its, n, h, hc, _⟩
  · exact .base (.tup h)
  · exact .fTuple h
  · exact .kTuple h hc
theorem dp_list {K : PySem.W.Frag} {H : Hp} {v : V} {ds : List PyData} (h : Dq K H v (.list ds)) : TyX K H v (.type "list") := by
  cases h with
  | lst hs _ => exact tyx_list hs
theorem dp_tup {K : PySem.W.Frag} {H : Hp} {v : V} {ds : List PyData} (h : Dq K H v (.tuple ds)) : TyX K H v (.type "tuple") := by
  cases h with
  | tup hs _ => exact tyx_tup (SqT.of hs)
instance : Kin Int := ⟨"int", fun d => by rw [d_int d]; exact .base (.int _)⟩
instance : Kin Bool := ⟨"bool", fun d => by rw [d_bool d]; exact .base (.bl _)⟩
instance : Kin Str := ⟨"str", fun d => by rw [d_str d]; exact .base (.str _)⟩
instance : Kin Unit := ⟨"NoneType", fun d => by cases d; exact .base .non⟩
instance : Kin (List α) := ⟨"list", fun d => dp_list d⟩
instance : Kin (Tp α) := ⟨"tuple", fun d => dp_tup d⟩
instance {β γ : Type} [Py β] [Py γ] : Kin (β × γ) := ⟨"tuple", fun d => dp_tup d⟩
instance {β γ δ : Type} [Py β] [Py γ] [Py δ] : Kin (P3 β γ δ) := ⟨"tuple", fun d => dp_tup d⟩
instance {β γ δ ε : Type} [Py β] [Py γ] [Py δ] [Py ε] : Kin (P4 β γ δ ε) := ⟨"tuple", fun d => dp_tup d⟩
section
variable {K : PySem.W.Frag} {H : Hp} {v : V} {Q : VK} {σ : L2.St}
theorem y_isi {β : Type} [Py β] [Kin β] {x : β} {T : String} {b : Bool} (d : D K H v x) (hb : kitB (Kin.ty β) T = some b) (k : Q (.bl b) H) : rIsi K [v, .ty T] H Q :=
  ⟨v, .ty T, _, .type T, b, rfl, .ty T, Kin.ok d, kit_ty hb, k⟩
theorem y_isiO {β : Type} [Py β] [Kin β] {x : Option β} {T : String} {b b' : Bool} (d : D K H v x) (hb : kitB (Kin.ty β) T = some b) (hb' : kitB "NoneType" T = some b') (k : Q (.bl (if x.isSome then b else b')) H) : rIsi K [v, .ty T] H Q := by
  cases x with
  | none =>
    cases d
    exact ⟨_, .ty T, _, .type T, b', rfl, .ty T, .base .non, kit_ty hb', k⟩
  | some x => exact ⟨v, .ty T, _, .type T, b, rfl, .ty T, Kin.ok (x := x) d, kit_ty hb, k⟩
end
end
section
variable {X : Cx} {K : PySem.W.Frag}
theorem zix_list (hK : X.K = K) : IxR X (rIxL K) := hK ▸ ix_list
theorem zix_tup (hK : X.K = K) : IxR X (rIxT K) := hK ▸ ix_tup
theorem zget_list (hK : X.K = K) : PGet X (rIxL K) := hK ▸ get_list
theorem zsl_list (hK : X.K = K) : SlR X (rSlL K) := hK ▸ sl_list
theorem zop_catS (hK : X.K = K) : OpR X (binaryOp .Add) (rCatS K) := hK ▸ op_catS
theorem zop_eqD (hK : X.K = K) (hu : X.A.units + 64 < cLine) : OpR X (compareOp .Eq) (rEqD K) := hK ▸ op_eqD hu
theorem zop_neD (hK : X.K = K) (hu : X.A.units + 64 < cLine) : OpR X (compareOp .NotEq) (rNeD K) := hK ▸ op_neD hu
theorem zlen (hK : X.K = K) : CallR X (.builtin "len") (rLenZ K) := hK ▸ call_len_seq
theorem zlist (hK : X.K = K) : CallR X (.type "list") (rListZ K) := hK ▸ call_list_of
theorem zisi (hK : X.K = K) : CallR X (.builtin "isinstance") (rIsi K) := hK ▸ call_isi
theorem zall (hK : X.K = K) (hc : X.calm = true) : CallR X (.builtin "all") (rAll K) := hK ▸ cr_all hc
theorem zany (hK : X.K = K) (hc : X.calm = true) : CallR X (.builtin "any") (rAny K) := hK ▸ cr_any hc
theorem zpi_list {tg l : Expr} {tl : TE} (hK : X.K = K) (hl : PE X l tl) : PI X tg l (iList K tl) := hK ▸ pi_list hl
theorem zpi_tup {tg l : Expr} {tl : TE} (hK : X.K = K) (hl : PE X l tl) : PI X tg l (iTup K tl) := hK ▸ pi_tup hl
theorem zsum (hK : X.K = K) (hc : X.calm = true) : CallR X (.builtin "sum") (rSum K) := hK ▸ cr_sum hc
theorem zsortI (hK : X.K = K) : CallR X (.builtin "sorted") (rSortedI K) := hK ▸ cr_sortedI
theorem zop_inD (hK : X.K = K) (hu : X.A.units + 65 < cLine) : OpR X (compareOp .In) (rInD K) := hK ▸ op_inD hu
theorem zop_notInD (hK : X.K = K) (hu : X.A.units + 65 < cLine) : OpR X (compareOp .NotIn) (rNotInD K) := hK ▸ op_notInD hu
end
theorem zpg_tup {X : Cx} {K : PySem.W.Frag} {es : List Expr} {k : Nat} {t : TGs} {n : Nat} {pos : Pos} (hK : X.K = K) (hc : X.calm = true) (h : PGs X es t)
    (hn : (assignEach es X.env).length = n := by rfl) (hst : (assignEach es X.env).findIdx? (·.1) = none := by rfl) : PG X (.Tuple es k pos) (gTup K n t) := hK ▸ pg_tup hc h hn hst
/-- a def that stands at f under the name x -/
structure Cal (P : Program) (w : World) (K : PySem.W.Frag) (mg : Str → Option Value) (base : Heap) (CX : CXT) (x : Str) (ps : List Str) (k : Nat) (sp : Sp) (f : Addr) (fd : FuncData) : Prop where
  ok : FnOk P w K mg base CX k f fd ps sp
  g : mg x = some (.ref f)
  kp : PySem.W.keepIn K (.ref f) = true
  b : Binds K fd ps []
section
variable {X : Cx} {K : PySem.W.Frag} {x n m : Str} {c : Value} {C : Addr} {i : Nat} {body suite : List Stmt} {b₀ : Stmt} {p p2 np pos pos' : Pos} {j : Nat} {tb : WX → TS} {ts : Addr → Value → Option Addr → TS} {W Wout : WX} {bmB : List Value} {B newId initId : String}
theorem zps_try_as (hK : X.K = K) (hs : X.stack = X.env :: X.outer) (hf : X.env.frame = some X.env.locals) (hN : X.N.Nodup) (hi : X.N[i]? = some n) (hln : X.env.kindOf n = some .local) (hc : Names X x c) (tk : Takes X Wout)
    (hb : ∀ (W : WX) (pn : List (Addr × Obj)) (xe : Value → Shared → Prop), Takes (X.tr pn xe) W → PassesOwn (model X.prog X.w) X.A X.env xe → PSs (X.tr pn xe) body (tb W))
    (hsu : ∀ (a : Addr) (oe : Obj) (cls : Value) (d : Option Addr) (pn : List (Addr × Obj)), Zc cls d oe → (∃ vs, oe.data = .fields vs) → PSs (X.suite a ((a, oe) :: pn)) (b₀ :: suite) (ts a cls d)) :
    PS X (.Try body [.ExceptHandler (some (.Name x np)) (some n) (b₀ :: suite) pos'] [] [] pos) (tTryAs K c i tb ts Wout) := hK ▸ ps_try_as hs hf hN hi hln hc tk hb hsu
theorem zps_try_only (hK : X.K = K) (hs : X.stack = X.env :: X.outer) (hf : X.env.frame = some X.env.locals) (hc : Names X x c) (tk : Takes X Wout)
    (hb : ∀ (W : WX) (pn : List (Addr × Obj)) (xe : Value → Shared → Prop), Takes (X.tr pn xe) W → PassesOwn (model X.prog X.w) X.A X.env xe → PSs (X.tr pn xe) body (tb W))
    (hsu : ∀ (a : Addr) (oe : Obj) (cls : Value) (d : Option Addr) (pn : List (Addr × Obj)), Zc cls d oe → (∃ vs, oe.data = .fields vs) → PSs (X.suite a ((a, oe) :: pn)) (b₀ :: suite) (ts a cls d)) :
    PS X (.Try body [.ExceptHandler (some (.Name x np)) none (b₀ :: suite) pos'] [] [] pos) (tTryOnly K c tb ts Wout) := hK ▸ ps_try_only hs hf hc tk hb hsu
theorem zps_raise (hK : X.K = K) (hc : X.calm = true) (tk : Takes X W) (q : PySem.W.excIn K C [.type "ValueError", .type "Exception", .type "BaseException", .type "object"] "ValueError.__new__" = true) (gC : X.mg x = some (.ref C)) (kC : PySem.W.keepIn K (.ref C) = true)
    (h1 : PySem.W.subIn K (.ref C) (.type "BaseException") = some true) (h2 : PySem.W.typeIn K (.ref C) = some (.type "type")) (hg : Gl X x) (hdb : (x == ("__debug__" : Str)) = false := by decide) :
    PS X (.Raise (some (.Call (.Name x p) [.Constant (.str m) j p2] [] pos)) none pos') (tRaise C W) := by
  subst hK
  exact ps_raise hc tk (pmk_own PySem.F.excBase_ValueError q gC kC (raises_own h1 h2) hg hdb)
/-- isinstance of the error that the suite holds -/
def rIsX (K : PySem.W.Frag) (a : Addr) (cls : Value) (d : Option Addr) : List V → Hp → VK → Prop := fun xs H Q => ∃ (D : Addr) (c : V) (cv : Value) (b : Bool), cls = .ref D ∧ d = none ∧ xs = [.ref a, c] ∧ ClsV c cv ∧ ExcC K D ∧ PySem.W.kitOne K (.ref D) cv = some b ∧ Q (.bl b) H
def rIsXT (K : PySem.W.Frag) (a : Addr) (cls : Value) (d : Option Addr) : List V → Hp → VK → Prop := fun xs H Q => ∃ (D : Addr) (tp : Addr) (cs : List V) (us : List Value) (b : Bool), cls = .ref D ∧ d = none ∧ xs = [.ref a, .ref tp] ∧ H tp = some (.tup cs) ∧ Paired ClsV cs us ∧ ExcC K D ∧ PySem.W.kitAny K (.ref D) us = some b ∧ Q (.bl b) H
theorem inst_at {X : Cx} {pins : List (Addr × Obj)} {σ : L2.St} {H : Hp} {s : Shared} {a D : Addr} {oe : Obj} {pn : List (Addr × Obj)} (hz : Zc (.ref D) none oe) (hf : ∃ vs, oe.data = .fields vs) (I : Inv (X.suite a ((a, oe) :: pn)) pins σ H s) : PySem.W.InstAt s.heap a oe D none := by
  have hget := (I.pin (a, oe) (List.mem_append.mpr (.inl List.mem_cons_self))).1
  obtain ⟨vs, hv⟩ := hf
  obtain ⟨oc, od, oda, osl⟩ := oe
  obtain ⟨h1, h2⟩ := hz
  dsimp only at h1 h2 hv
  subst h1 h2 hv
  exact ⟨hget, rfl, rfl, trivial⟩
theorem zisX {a : Addr} {cls : Value} {d : Option Addr} {oe : Obj} {pn : List (Addr × Obj)} (hK : X.K = K) (hz : Zc cls d oe) (hf : ∃ vs, oe.data = .fields vs) : CallR (X.suite a ((a, oe) :: pn)) (.builtin "isinstance") (rIsX K a cls d) := by
  subst hK
  intro pins s σ H xs us Q I r h
  obtain ⟨D, c, cv, b, rfl, rfl, rfl, hcv, C, e, q⟩ := h
  obtain ⟨u1, u2, rfl, r1, r2⟩ := vals2 r
  cases (show u1 = Value.ref a from r1)
  have ec := hcv.eq r2
  subst ec
  exact PySem.W.kia_one (PySem.W.handS_kitx_exc C.hg C.hk C.hs C.hd C.ha C.hn C.ht C.hm) I.kIn (inst_at hz hf I) e (fun z => nomatch z) fun tk => ⟨.bl b, H, I.tok tk, rfl, q⟩
theorem zisXT {a : Addr} {cls : Value} {d : Option Addr} {oe : Obj} {pn : List (Addr × Obj)} (hK : X.K = K) (hz : Zc cls d oe) (hf : ∃ vs, oe.data = .fields vs) : CallR (X.suite a ((a, oe) :: pn)) (.builtin "isinstance") (rIsXT K a cls d) := by
  subst hK
  intro pins s σ H xs us Q I r h
  obtain ⟨D, tp, cs, ws, b, rfl, rfl, rfl, hT, k, C, e, q⟩ := h
  obtain ⟨u1, u2, rfl, r1, r2⟩ := vals2 r
  cases (show u1 = Value.ref a from r1)
  cases (show u2 = Value.ref tp from r2)
  obtain ⟨_, its, rv, o, h1, h2, n, h3⟩ := (show ObjOk X.prog X.w H s.heap tp (.tup cs) from I.hok tp _ hT)
  have e3 := ClsV.all k rv
  subst e3
  obtain ⟨oc, od, dt, sl⟩ := o
  simp only at h2 h3
  subst h2 h3
  exact PySem.W.kia_tup (PySem.W.handS_kitx_exc C.hg C.hk C.hs C.hd C.ha C.hn C.ht C.hm) I.kIn (inst_at hz hf I) h1 e (fun z => nomatch z) fun tk => ⟨.bl b, H, I.tok tk, rfl, q⟩
end
section
variable {σ : L2.St} {H : Hp} {K : PySem.W.Frag}
inductive TCs : TA → List V → Prop where
  | nil : TCs tNil []
  | cons {v : V} {vs : List V} {t : TA} (h : TCs t vs) : TCs (tCons (tC v) t) (v :: vs)
theorem TCs.run {t : TA} {vs : List V} (h : TCs t vs) : ∀ {σ : L2.St} {H : Hp} {Q : List V → Hp → Prop}, Q vs H → t σ H Q := by
  induction h with
  | nil => exact fun q => q
  | cons h ih => exact fun q => ih q
theorem y_isX {cl : Nat → Addr} {n : Nat} {a : Addr} {Q : VK} {v : V} {cv : Value} {b : Bool} (xc : ExcC K (cl n)) (k : ClsV v cv) (e : PySem.W.kitOne K (.ref (cl n)) cv = some b) (q : Q (.bl b) H) : rIsX K a (.ref (cl n)) none [.ref a, v] H Q :=
  ⟨cl n, v, cv, b, rfl, rfl, rfl, k, xc, e, q⟩
theorem y_isXT {cl : Nat → Addr} {n : Nat} {a : Addr} {Q : VK} {rs : List (Addr × HO)} {Ho : Hp} {vs : List V} {us : List Value} {b : Bool} {ts : TA} (z : Zs rs H Ho) (xc : ExcC K (cl n)) (ht : TCs ts vs) (k : Paired ClsV vs us) (e : PySem.W.kitAny K (.ref (cl n)) us = some b) (q : ∀ H' Ho', Same Ho Ho' → Zs rs H' Ho' → Q (.bl b) H') (hl : vs.length ≤ sizeLine := by decide) :
    tTup ts σ H fun x H1 => rIsXT K a (.ref (cl n)) none [.ref a, x] H1 Q := by
  refine ht.run ⟨hl, fun p hp => ?_⟩
  have e3 : Same Ho (upd Ho p (.tup vs)) := Same.new (z.free hp)
  exact ⟨cl n, p, vs, us, b, rfl, rfl, rfl, upd_same, k, xc, e, q _ _ e3 (z.alloc hp)⟩
theorem kitAny_or {t c : Value} {cs : List Value} {b r : Bool} (h : PySem.W.kitOne K t c = some b) (hr : PySem.W.kitAny K t cs = some r) : PySem.W.kitAny K t (c :: cs) = some (b || r) := by
  refine kitAny_cons h (fun e => ?_) (fun e => by rw [e]; rfl)
  rw [e]; exact hr
end

section
variable {X : Cx} {K : PySem.W.Frag} {tg e e2 : Expr} {ta : TA} {p pos tpos : Pos} {elts : List Expr} {kk : Nat}
theorem zpi_zip (hK : X.K = K) (hg : Gl X "zip") (hm : X.mg "zip" = none) (ha : PA X [e, e2] ta)
    (hs : starEach [e, e2] X.env = (false, eval e X.env) :: starEach [e2] X.env := by rfl) (hpl : (backTo pos (starEach [e2] X.env)).any (·.1) = false := by rfl) :
    PI X (.Tuple elts kk tpos) (.Call (.Name "zip" p) [e, e2] [] pos) (iZip K ta) := hK ▸ pi_zip hg hm ha hs hpl
theorem zpi_enum (hK : X.K = K) (hg : Gl X "enumerate") (hm : X.mg "enumerate" = none) (ha : PA X [e] ta) (hs : starEach [e] X.env = [(false, eval e X.env)] := by rfl) :
    PI X (.Tuple elts kk tpos) (.Call (.Name "enumerate" p) [e] [] pos) (iEnum K ta) := hK ▸ pi_enum hg hm ha hs
end
theorem zpi_rev {X : Cx} {K : PySem.W.Frag} {tg e : Expr} {ta : TA} {p pos : Pos} (hK : X.K = K) (hg : Gl X "reversed") (hm : X.mg "reversed" = none) (ha : PA X [e] ta) (hs : starEach [e] X.env = [(false, eval e X.env)] := by rfl) : PI X tg (.Call (.Name "reversed" p) [e] [] pos) (iRev K ta) := hK ▸ pi_reversed hg hm ha hs
end Z

/-! # Yg: what is one's own, by groups of roots -/
namespace Z
open PySem PySem.Spec PyProof.Rows L2
abbrev Grp := List (Addr × HO)
/-- groups, in a row, ahead of the rest -/
def rowG (gs : List Grp) (amb : Grp) : Grp := gs.foldr (· ++ ·) amb
theorem rowG_eq (gs : List Grp) (amb : Grp) : rowG gs amb = gs.flatten ++ amb := by
  induction gs with
  | nil => rfl
  | cons g gs ih => show g ++ rowG gs amb = _; rw [ih, List.flatten_cons, List.append_assoc]
theorem mg0 {g R : Grp} : ∀ r ∈ g, r ∈ g ++ R := fun _ h => List.mem_append_left _ h
theorem mgS {g h R : Grp} (k : ∀ r ∈ g, r ∈ R) : ∀ r ∈ g, r ∈ h ++ R := fun r m => List.mem_append_right _ (k r m)
theorem room65 {k : Nat} {A : Around} (r : Room k A) : A.units + 65 < cLine := by have := r.un; omega
theorem mgN {rs : Grp} : ∀ r ∈ ([] : Grp), r ∈ rs := fun _ m => nomatch m
theorem mgE {g : Grp} : ∀ r ∈ g, r ∈ g := fun _ h => h
section
variable {K : PySem.W.Frag} {H Ho H' Ho' : Hp} {rs : Grp}
theorem sel_nodup {α β : Type} (f : α → β) (l : List (List α)) (is : List Nat) (hn : is.Nodup) (h : (l.flatten.map f).Nodup) : ((is.filterMap fun i => l[i]?).flatten.map f).Nodup := by
  rw [List.map_flatten] at h ⊢
  unfold List.Nodup at h ⊢
  rw [List.pairwise_flatten] at h ⊢
  have sub : ∀ g ∈ (is.filterMap fun i => l[i]?), g ∈ l := fun r hr => by
    obtain ⟨i, _, e⟩ := List.mem_filterMap.mp hr
    exact List.mem_of_getElem? e
  refine ⟨fun g hg => ?_, ?_⟩
  · obtain ⟨r, hr, rfl⟩ := List.mem_map.mp hg
    exact h.1 _ (List.mem_map.mpr ⟨r, sub r hr, rfl⟩)
  · rw [List.pairwise_map]
    have h2 := h.2
    rw [List.pairwise_map] at h2
    refine List.Pairwise.filterMap _ (fun i j hij a ha b hb => ?_) hn
    rw [List.pairwise_iff_getElem] at h2
    have hl1 := (List.getElem?_eq_some_iff.mp ha)
    have hl2 := (List.getElem?_eq_some_iff.mp hb)
    obtain ⟨hi, rfl⟩ := hl1
    obtain ⟨hj, rfl⟩ := hl2
    rcases Nat.lt_or_gt_of_ne hij with c | c
    · exact h2 i j hi hj c
    · exact fun x hx y hy e => h2 j i hj hi c y hy x hx e.symm
/-- some of the groups, in any order -/
theorem Zs.go {rs rs' : Grp} (gs : List Grp) (amb : Grp) (is : List Nat) (z : Zs rs H Ho) (h1 : rs = rowG gs amb := by rfl) (h2 : rs' = rowG (is.filterMap fun i => gs[i]?) amb := by rfl) (hn : is.Nodup := by decide) : Zs rs' H Ho := by
  subst h1 h2
  rw [rowG_eq] at z ⊢
  have sub : ∀ r ∈ (is.filterMap fun i => gs[i]?).flatten, r ∈ gs.flatten := fun r hr => by
    obtain ⟨g, hg, hr⟩ := List.mem_flatten.mp hr
    obtain ⟨i, _, e⟩ := List.mem_filterMap.mp hg
    exact List.mem_flatten.mpr ⟨g, List.mem_of_getElem? e, hr⟩
  have sub2 : ∀ r ∈ (is.filterMap fun i => gs[i]?).flatten ++ amb, r ∈ gs.flatten ++ amb := fun r hr => by
    rcases List.mem_append.mp hr with h | h
    · exact List.mem_append_left _ (sub r h)
    · exact List.mem_append_right _ h
  refine ⟨z.le, fun r hr => z.rt r (sub2 r hr), ?_, fun r hr => z.nt r (sub2 r hr)⟩
  · have nd := z.nd
    rw [List.map_append, List.nodup_append] at nd ⊢
    refine ⟨sel_nodup _ gs is hn nd.1, nd.2.1, fun a ha b hb e => ?_⟩
    obtain ⟨r, hr, rfl⟩ := List.mem_map.mp ha
    exact nd.2.2 _ (List.mem_map.mpr ⟨r, sub r hr, rfl⟩) b hb e
end
/-! ### ways, without data -/
section
variable {α β γ : Type} {Φ : γ → Prop}
theorem run_gd {p : Prop} {c : W γ} (h : (W.guard p c).run Φ) : p ∧ c.run Φ := h
theorem run_opt' {o : Option β} {f : β → W γ} (h : (W.bind (W.opt o) f).run Φ) : ∃ a, o = some a ∧ (f a).run Φ := h
theorem run_itT {A B : W γ} {b : Bool} (h : (W.ite b A B).run Φ) (e : b = true) : A.run Φ := h.1 e
theorem run_itF {A B : W γ} {b : Bool} (h : (W.ite b A B).run Φ) (e : b = false) : B.run Φ := h.2 e
theorem run_bret {e : β} {f : β → W γ} (h : (W.bind (W.ret e) f).run Φ) : (f e).run Φ := h
theorem w_two {b : Bool} {X Y : Prop} (h1 : b = true → X) (h2 : b = false → Y) : if b = true then X else Y := by
  cases b with
  | true => exact iteT (h1 rfl)
  | false => exact iteF (h2 rfl)
theorem exm_mono {c : W (Ex β)} {N N' : β → Prop} {X X' : Er → Prop} (h : c.run (ExP N X)) (h1 : ∀ a, N a → N' a) (h2 : ∀ e, X e → X' e) : c.run (ExP N' X') :=
  c.mono _ _ (fun r hr => by cases r with | ok a => exact h1 a hr | er e => exact h2 e hr) h
theorem run_mono' {c : W β} {N N' : β → Prop} (h : c.run N) (k : ∀ a, N a → N' a) : c.run N' := c.mono _ _ k h
theorem run_mono3 {c : W β} {f : β → W γ} {N : β → Prop} (hw : (W.bind c f).run Φ) (k : ∀ a, (f a).run Φ → N a) : c.run N := c.mono _ _ (fun r h => k r h) hw
theorem run_mono2 {c : W (α × β)} {f : α → β → W γ} {N : α × β → Prop} (hw : (W.bind2 c f).run Φ) (k : ∀ a b, (f a b).run Φ → N (a, b)) : c.run N := c.mono _ _ (fun r h => k r.1 r.2 h) hw
theorem run_b {c : W β} {f : β → W γ} (h : (W.bind c f).run Φ) : c.run fun a => (f a).run Φ := h
theorem run_b2 {c : W (α × β)} {f : α → β → W γ} (h : (W.bind2 c f).run Φ) : c.run fun r => (f r.1 r.2).run Φ := h
end
/-! ### lists of data of one's own -/
section
variable {K : PySem.W.Frag} {H Ho H' Ho' : Hp} {α β γ : Type} [Py α] [Py β] {Φ : γ → Prop} {R : Grp} {v w : V} {Q : VK}
def OL (K : PySem.W.Frag) (Ho : Hp) (v : V) (xs : List α) (g : Grp) : Prop := ∃ p vs, v = .ref p ∧ DL K Ho vs xs ∧ g = [(p, .lst vs)]
theorem OL.mo {v : V} {xs : List α} {g : Grp} (h : OL K Ho v xs g) (e : Same Ho Ho') : OL K Ho' v xs g := by
  obtain ⟨p, vs, rfl, d, rfl⟩ := h
  exact ⟨p, vs, rfl, DL.mo d e, rfl⟩
theorem OL.mk {p : Addr} {ws : List V} {xs : List α} (d : DL K Ho ws xs) : OL K Ho (.ref p) xs [(p, .lst ws)] := ⟨p, ws, rfl, d, rfl⟩
theorem OL.lv {xs : List α} {g : Grp} (h : OL K Ho v xs g) (m : ∀ r ∈ g, r ∈ R) : LV K R Ho v xs := by
  obtain ⟨p, vs, rfl, d, rfl⟩ := h
  exact ⟨p, vs, rfl, d, .inr (m _ (List.mem_singleton.mpr rfl))⟩
/-- a list of its own stands for good from now on -/
theorem OL.fr {xs : List α} {g : Grp} (h : OL K Ho v xs g) (z : Zs (g ++ R) H Ho) : ∃ Ho', Same Ho Ho' ∧ Zs R H Ho' ∧ Z.D K Ho' v xs := by
  obtain ⟨p, vs, rfl, d, rfl⟩ := h
  exact frz z d
theorem g_tyL {P : Prop} {xs : List α} (d : LV K R Ho v xs) (z : Zs R H Ho) (k : P) : tyV K "list" v H ∧ P := by
  obtain ⟨p, vs, rfl, _, s⟩ := LV.rd d z
  exact ⟨.inl ⟨rfl, _, s⟩, k⟩
theorem g_app {xs : List α} {x : α} {g : Grp} {f : List α → W γ} (z : Zs (g ++ R) H Ho) (o : OL K Ho v xs g) (dx : Z.D K Ho w x) (hw : (W.bind (apd xs x) f).run Φ) (k : ∀ xs' g' H', Zs (g' ++ R) H' Ho → OL K Ho v xs' g' → (f xs').run Φ → Q .non H') : rAppend v [w] H Q := by
  obtain ⟨p, vs, rfl, d, rfl⟩ := o
  exact ⟨p, vs, w, rfl, rfl, z.head, by rw [DL.len d]; exact hw.1, k _ _ _ z.put ⟨p, _, rfl, d.push dx, rfl⟩ hw.2⟩
theorem g_ext {xs ys : List α} {g g2 : Grp} {f : List α → W γ} (z : Zs (g2 ++ (g ++ R)) H Ho) (o : OL K Ho v xs g) (o2 : OL K Ho w ys g2) (hw : (W.bind (exd xs ys) f).run Φ) (k : ∀ xs' g' H', Zs (g' ++ R) H' Ho → OL K Ho v xs' g' → (f xs').run Φ → Q .non H') : rExtend v [w] H Q := by
  obtain ⟨p, vs, rfl, d, rfl⟩ := o
  obtain ⟨q, us, rfl, d2, rfl⟩ := o2
  have z1 : Zs ((p, .lst vs) :: (q, .lst us) :: R) H Ho := Zs.sw1 z
  exact ⟨p, q, vs, us, rfl, rfl, z1.head, z.head, by rw [DL.len d, DL.len d2]; exact hw.1, k _ _ _ (Zs.tail (Zs.sw1 z1.put)) ⟨p, _, rfl, d.append d2, rfl⟩ hw.2⟩
/-- xs.insert(i, x) -/
def insL {α : Type} (xs : List α) (i : Int) (x : α) : W (List α) := W.guard (xs.length < sizeLine ∧ 0 ≤ i ∧ i < 2 ^ 63) (W.ret (xs.take i.toNat ++ [x] ++ xs.drop i.toNat))
theorem dpAll_takeG {vs : List V} {ds : List PyData} (h : DqAll K H vs ds) (n : Nat) : DqAll K H (vs.take n) (ds.take n) := dpAll_take h n
theorem g_ins {xs : List α} {x : α} {i : Int} {g : Grp} {f : List α → W γ} (z : Zs (g ++ R) H Ho) (o : OL K Ho v xs g) (dx : Z.D K Ho w x) (hw : (W.bind (insL xs i x) f).run Φ) (k : ∀ xs' g' H', Zs (g' ++ R) H' Ho → OL K Ho v xs' g' → (f xs').run Φ → Q .non H') :
    (fun x vs H Q => ∃ (l : Addr) (xs : List V) (i : Int) (y : V), x = .ref l ∧ vs = [.int i, y] ∧ H l = some (.lst xs) ∧ xs.length < sizeLine ∧ 0 ≤ i ∧ i < 2 ^ 63 ∧ Q .non (upd H l (.lst (xs.take i.toNat ++ [y] ++ xs.drop i.toNat))) : V → List V → Hp → VK → Prop) v [.int i, w] H Q := by
  obtain ⟨p, vs, rfl, d, rfl⟩ := o
  obtain ⟨⟨h1, h2, h3⟩, hw⟩ := hw
  refine ⟨p, vs, i, w, rfl, rfl, z.head, by rw [DL.len d]; exact h1, h2, h3, k _ _ _ z.put ⟨p, _, rfl, ?_, rfl⟩ hw⟩
  show DqAll _ _ _ ((xs.take i.toNat ++ [x] ++ xs.drop i.toNat).map Py.toPy)
  rw [List.map_append, List.map_append, List.map_take, List.map_drop]
  exact dpAll_append (dpAll_append (dpAll_take d _) (.cons dx .nil)) (dpAll_drop d _)
theorem g_clear {xs : List α} {g : Grp} (z : Zs (g ++ R) H Ho) (o : OL K Ho v xs g) (k : ∀ g' H', Zs (g' ++ R) H' Ho → OL K Ho v ([] : List α) g' → Q .non H') : rClear v [] H Q := by
  obtain ⟨p, vs, rfl, d, rfl⟩ := o
  exact ⟨p, vs, rfl, rfl, z.head, k _ _ z.put ⟨p, _, rfl, .nil, rfl⟩⟩
theorem dpAll_rev {vs : List V} {ds : List PyData} (h : DqAll K H vs ds) : DqAll K H vs.reverse ds.reverse := by
  induction vs generalizing ds with
  | nil => cases h; exact .nil
  | cons v vs ih => cases h with | cons h1 h2 => rw [List.reverse_cons, List.reverse_cons]; exact dpAll_append (ih h2) (.cons h1 .nil)
theorem g_rev {xs : List α} {g : Grp} (z : Zs (g ++ R) H Ho) (o : OL K Ho v xs g) (k : ∀ g' H', Zs (g' ++ R) H' Ho → OL K Ho v xs.reverse g' → Q .non H') : rReverse v [] H Q := by
  obtain ⟨p, vs, rfl, d, rfl⟩ := o
  refine ⟨p, vs, rfl, rfl, z.head, k _ _ z.put ⟨p, _, rfl, ?_, rfl⟩⟩
  show DqAll _ _ _ (xs.reverse.map Py.toPy)
  rw [List.map_reverse]
  exact dpAll_rev d
theorem g_sti {xs : List α} {x : α} {i : Int} {g : Grp} {QH : Hp → Prop} {f : List α → W γ} (z : Zs (g ++ R) H Ho) (o : OL K Ho v xs g) (dx : Z.D K Ho w x) (hw : (W.bind (sti xs i x) f).run Φ) (k : ∀ xs' g' H', Zs (g' ++ R) H' Ho → OL K Ho v xs' g' → (f xs').run Φ → QH H') : rSetL v (.int i) w H QH := by
  obtain ⟨p, vs, rfl, d, rfl⟩ := o
  obtain ⟨j, ej, hw⟩ := hw
  exact ⟨p, vs, i, j, rfl, rfl, z.head, by rw [DL.len d]; exact ej, k _ _ _ z.put ⟨p, _, rfl, DL.set d dx j, rfl⟩ hw⟩
theorem g_pop {xs : List α} {g : Grp} {f : α → W γ} (z : Zs (g ++ R) H Ho) (o : OL K Ho v xs g) (hw : (W.bind (popL xs) f).run Φ) (k : ∀ t w g' H', Zs (g' ++ R) H' Ho → OL K Ho v xs.dropLast g' → Z.D K Ho w t → (f t).run Φ → Q w H') : rPop v [] H Q := by
  obtain ⟨p, vs, rfl, d, rfl⟩ := o
  exact y_pop (n := 0) z rfl d hw fun t w ws' H' z' d' dw hw => k t w _ H' z' ⟨p, _, rfl, d', rfl⟩ dw hw
theorem g_popI {xs : List α} {i : Int} {g : Grp} {f : α × List α → W γ} (z : Zs (g ++ R) H Ho) (o : OL K Ho v xs g) (hw : (W.bind (popI xs i) f).run Φ) (k : ∀ t xs' w g' H', Zs (g' ++ R) H' Ho → OL K Ho v xs' g' → Z.D K Ho w t → (f (t, xs')).run Φ → Q w H') : rPopAt v [.int i] H Q := by
  obtain ⟨p, vs, rfl, d, rfl⟩ := o
  exact y_popI (n := 0) z rfl d hw fun t xs' w ws' H' z' d' dw hw => k t xs' w _ H' z' ⟨p, _, rfl, d', rfl⟩ dw hw
/-! ### a value gets a name -/
def LetV (G : V → Prop) (v : V) : Prop := G v
theorem l_asg {u : TS} {te : TE} {D : Ends} {σ : L2.St} {i : Nat} (σ' : V → L2.St) (hσ : ∀ v, σ.set i (some v) = σ' v) (k : te σ H fun v H1 => LetV (fun v => u D (σ' v) H1) v) : tSeq (tAsg te (gName i)) u D σ H := by
  have e : (fun v H1 => LetV (fun v => u D (σ' v) H1) v) = fun v H1 => u D (σ.set i (some v)) H1 := by funext v H1; rw [hσ]; rfl
  rw [e] at k
  exact k
variable {G : V → Prop}
theorem l_n (k : G .non) : LetV G .non := k
theorem l_i {e : Int} {f : Int → W γ} (hw : (W.bind (W.ret e) f).run Φ) (k : ∀ x, (f x).run Φ → G (.int x)) : LetV G (.int e) := k e hw
theorem l_b {e : Bool} {f : Bool → W γ} (hw : (W.bind (W.ret e) f).run Φ) (k : ∀ x, (f x).run Φ → G (.bl x)) : LetV G (.bl e) := k e hw
theorem l_s {e : Str} {f : Str → W γ} (hw : (W.bind (W.ret e) f).run Φ) (k : ∀ x, (f x).run Φ → G (.str x)) : LetV G (.str e) := k e hw
theorem l_d {e : α} {f : α → W γ} (hw : (W.bind (W.ret e) f).run Φ) (d : Z.D K Ho v e) (k : ∀ x v, Z.D K Ho v x → (f x).run Φ → G v) : LetV G v := k e v d hw
theorem l_o {e : List α} {g : Grp} {f : List α → W γ} (hw : (W.bind (W.ret e) f).run Φ) (z : Zs (g ++ R) H Ho) (o : OL K Ho v e g) (k : ∀ x v g, Zs (g ++ R) H Ho → OL K Ho v x g → (f x).run Φ → G v) : LetV G v := k e v g z o hw
/-- what is told stands for good -/
theorem l_fr {P : Prop} {xs : List α} {g : Grp} (o : OL K Ho v xs g) (z : Zs (g ++ R) H Ho) (k : ∀ Ho', Same Ho Ho' → Zs R H Ho' → Z.D K Ho' v xs → P) : P := by
  obtain ⟨Ho', e, z', d⟩ := o.fr z
  exact k Ho' e z' d
/-! ### ways -/
theorem w_t {X Y : Prop} (k : X) : if true = true then X else Y := by simpa using k
/-- both ways tell a value and change nothing -/
theorem w_if {σ : L2.St} {ta tb : TE} {c : Bool} {a b : β} (mk : β → V) (h1 : c = true → Q (mk a) H → ta σ H Q) (h2 : c = false → Q (mk b) H → tb σ H Q) (k : Q (mk (if c = true then a else b)) H) : if c = true then ta σ H Q else tb σ H Q := by
  cases c with
  | true => exact iteT (h1 rfl k)
  | false => exact iteF (h2 rfl k)
theorem w_andP {σ : L2.St} {tu : TT} {QB : Bool → Hp → Prop} {a : Bool} (b : Bool) (h : a = true → QB b H → tu σ H QB) (k : QB (a && b) H) : if a = true then tu σ H QB else QB false H := by
  cases a with
  | true => exact iteT (h rfl k)
  | false => exact iteF k
theorem w_orP {σ : L2.St} {tu : TT} {QB : Bool → Hp → Prop} {a : Bool} (b : Bool) (h : a = false → QB b H → tu σ H QB) (k : QB (a || b) H) : if a = true then QB true H else tu σ H QB := by
  cases a with
  | true => exact iteT k
  | false => exact iteF (h rfl k)
theorem w_andPV {σ : L2.St} {tb : TE} {a : Bool} (b : Bool) (h : a = true → Q (.bl b) H → tb σ H Q) (k : Q (.bl (a && b)) H) : if a = true then tb σ H Q else Q (.bl false) H := by
  cases a with
  | true => exact iteT (h rfl k)
  | false => exact iteF k
theorem w_orPV {σ : L2.St} {tb : TE} {a : Bool} (b : Bool) (h : a = false → Q (.bl b) H → tb σ H Q) (k : Q (.bl (a || b)) H) : if a = true then Q (.bl true) H else tb σ H Q := by
  cases a with
  | true => exact iteT k
  | false => exact iteF (h rfl k)
theorem w_chain {σ : L2.St} {tc : TE} {r' : R2} {y : V} {a : Bool} (b : Bool) (h : a = true → Q (.bl b) H → tc σ H fun w' H4 => r' y w' H4 Q) (k : Q (.bl (a && b)) H) : if a = true then tc σ H (fun w' H4 => r' y w' H4 Q) else Q (.bl false) H := by
  cases a with
  | true => exact iteT (h rfl k)
  | false => exact iteF k
/-! ways that meet -/
section
variable {S ρ : Type} {b : Bool} {c1 c2 : W S} {f : S → W γ} {σ : L2.St} {D : Ends} {u t1 t2 : TS} {tu : TT} {ta tb : TE} {QB : Bool → Hp → Prop}
theorem w_ifJ (hw : (W.bind (W.ite b c1 c2) f).run Φ) (J : S → L2.St → Hp → Prop)
    (h1 : b = true → c1.run (fun s => ∀ σ' H', J s σ' H' → u D σ' H') → t1 { D with nx := u D } σ H)
    (h2 : b = false → c2.run (fun s => ∀ σ' H', J s σ' H' → u D σ' H') → t2 { D with nx := u D } σ H)
    (k : ∀ s σ' H', J s σ' H' → (f s).run Φ → u D σ' H') : if b = true then t1 { D with nx := u D } σ H else t2 { D with nx := u D } σ H := by
  cases b with
  | true => exact iteT (h1 rfl (W.mono _ _ _ (fun s q σ' H' j => k s σ' H' j q) (hw.1 rfl)))
  | false => exact iteF (h2 rfl (W.mono _ _ _ (fun s q σ' H' j => k s σ' H' j q) (hw.2 rfl)))
theorem w_ifC {Φ : ρ → Prop} {c1 c2 : W (Ctl ρ S)} {f : S → W ρ} (hw : (W.bind (W.ite b c1 c2) fun c => W.after c f).run Φ) (J : S → L2.St → Hp → Prop)
    (h1 : b = true → c1.run (CtlP (fun s => ∀ σ' H', J s σ' H' → u D σ' H') (fun s => ∀ σ' H', J s σ' H' → u D σ' H') Φ) → t1 { D with nx := u D } σ H)
    (h2 : b = false → c2.run (CtlP (fun s => ∀ σ' H', J s σ' H' → u D σ' H') (fun s => ∀ σ' H', J s σ' H' → u D σ' H') Φ) → t2 { D with nx := u D } σ H)
    (k : ∀ s σ' H', J s σ' H' → (f s).run Φ → u D σ' H') : if b = true then t1 { D with nx := u D } σ H else t2 { D with nx := u D } σ H := by
  have m : ∀ c : W (Ctl ρ S), c.run (fun c => (W.after c f).run Φ) → c.run (CtlP (fun s => ∀ σ' H', J s σ' H' → u D σ' H') (fun s => ∀ σ' H', J s σ' H' → u D σ' H') Φ) := fun c h => c.mono _ _ (fun r q => by
    cases r with
    | nx s => exact fun σ' H' j => k s σ' H' j q
    | bk s => exact fun σ' H' j => k s σ' H' j q
    | rt r => exact q) h
  cases b with
  | true => exact iteT (h1 rfl (m _ (hw.1 rfl)))
  | false => exact iteF (h2 rfl (m _ (hw.2 rfl)))
theorem w_andJ (hw : (W.bind (W.ite b c1 c2) f).run Φ) (J : S → Bool → Hp → Prop)
    (h1 : b = true → c1.run (fun s => ∀ v H', J s v H' → QB v H') → tu σ H QB)
    (h2 : b = false → c2.run (fun s => ∀ v H', J s v H' → QB v H') → QB false H)
    (k : ∀ s v H', J s v H' → (f s).run Φ → QB v H') : if b = true then tu σ H QB else QB false H := by
  cases b with
  | true => exact iteT (h1 rfl (W.mono _ _ _ (fun s q v H' j => k s v H' j q) (hw.1 rfl)))
  | false => exact iteF (h2 rfl (W.mono _ _ _ (fun s q v H' j => k s v H' j q) (hw.2 rfl)))
theorem w_orJ (hw : (W.bind (W.ite b c1 c2) f).run Φ) (J : S → Bool → Hp → Prop)
    (h1 : b = true → c1.run (fun s => ∀ v H', J s v H' → QB v H') → QB true H)
    (h2 : b = false → c2.run (fun s => ∀ v H', J s v H' → QB v H') → tu σ H QB)
    (k : ∀ s v H', J s v H' → (f s).run Φ → QB v H') : if b = true then QB true H else tu σ H QB := by
  cases b with
  | true => exact iteT (h1 rfl (W.mono _ _ _ (fun s q v H' j => k s v H' j q) (hw.1 rfl)))
  | false => exact iteF (h2 rfl (W.mono _ _ _ (fun s q v H' j => k s v H' j q) (hw.2 rfl)))
theorem w_andVJ (hw : (W.bind (W.ite b c1 c2) f).run Φ) (J : S → V → Hp → Prop)
    (h1 : b = true → c1.run (fun s => ∀ v H', J s v H' → Q v H') → tb σ H Q)
    (h2 : b = false → c2.run (fun s => ∀ v H', J s v H' → Q v H') → Q (.bl false) H)
    (k : ∀ s v H', J s v H' → (f s).run Φ → Q v H') : if b = true then tb σ H Q else Q (.bl false) H := by
  cases b with
  | true => exact iteT (h1 rfl (W.mono _ _ _ (fun s q v H' j => k s v H' j q) (hw.1 rfl)))
  | false => exact iteF (h2 rfl (W.mono _ _ _ (fun s q v H' j => k s v H' j q) (hw.2 rfl)))
theorem w_orVJ (hw : (W.bind (W.ite b c1 c2) f).run Φ) (J : S → V → Hp → Prop)
    (h1 : b = true → c1.run (fun s => ∀ v H', J s v H' → Q v H') → Q (.bl true) H)
    (h2 : b = false → c2.run (fun s => ∀ v H', J s v H' → Q v H') → tb σ H Q)
    (k : ∀ s v H', J s v H' → (f s).run Φ → Q v H') : if b = true then Q (.bl true) H else tb σ H Q := by
  cases b with
  | true => exact iteT (h1 rfl (W.mono _ _ _ (fun s q v H' j => k s v H' j q) (hw.1 rfl)))
  | false => exact iteF (h2 rfl (W.mono _ _ _ (fun s q v H' j => k s v H' j q) (hw.2 rfl)))
theorem w_ifEJ (hw : (W.bind (W.ite b c1 c2) f).run Φ) (J : S → V → Hp → Prop)
    (h1 : b = true → c1.run (fun s => ∀ v H', J s v H' → Q v H') → ta σ H Q)
    (h2 : b = false → c2.run (fun s => ∀ v H', J s v H' → Q v H') → tb σ H Q)
    (k : ∀ s v H', J s v H' → (f s).run Φ → Q v H') : if b = true then ta σ H Q else tb σ H Q := by
  cases b with
  | true => exact iteT (h1 rfl (W.mono _ _ _ (fun s q v H' j => k s v H' j q) (hw.1 rfl)))
  | false => exact iteF (h2 rfl (W.mono _ _ _ (fun s q v H' j => k s v H' j q) (hw.2 rfl)))
end
/-! ### targets -/
section
variable {δ ε : Type} [Py δ] [Py ε] {i j l m : Nat} {x : V} {σ : L2.St} {QS : L2.St → Hp → Prop} {rs : Grp}
theorem c_gt2 {a : α × β} (σ' : V → V → L2.St) (hσ : ∀ v u, (σ.set i (some v)).set j (some u) = σ' v u) (d : Z.D K Ho x a) (z : Zs rs H Ho) (k : ∀ v u, Z.D K Ho v a.1 → Z.D K Ho u a.2 → QS (σ' v u) H) : gTup K 2 (gCons (gName i) (gCons (gName j) gNil)) x σ H QS :=
  y_gt2 d z fun v u d1 d2 => by rw [hσ]; exact k v u d1 d2
theorem c_gt3 {a : P3 α β δ} (σ' : V → V → V → L2.St) (hσ : ∀ v u w, ((σ.set i (some v)).set j (some u)).set l (some w) = σ' v u w) (d : Z.D K Ho x a) (z : Zs rs H Ho) (k : ∀ v u w, Z.D K Ho v a.a → Z.D K Ho u a.b → Z.D K Ho w a.c → QS (σ' v u w) H) : gTup K 3 (gCons (gName i) (gCons (gName j) (gCons (gName l) gNil))) x σ H QS :=
  y_gt3 d z fun v u w d1 d2 d3 => by rw [hσ]; exact k v u w d1 d2 d3
theorem c_gt4 {a : P4 α β δ ε} (σ' : V → V → V → V → L2.St) (hσ : ∀ v u w t, (((σ.set i (some v)).set j (some u)).set l (some w)).set m (some t) = σ' v u w t) (d : Z.D K Ho x a) (z : Zs rs H Ho) (k : ∀ v u w t, Z.D K Ho v a.a → Z.D K Ho u a.b → Z.D K Ho w a.c → Z.D K Ho t a.d → QS (σ' v u w t) H) : gTup K 4 (gCons (gName i) (gCons (gName j) (gCons (gName l) (gCons (gName m) gNil)))) x σ H QS :=
  y_gt4 d z fun v u w t d1 d2 d3 d4 => by rw [hσ]; exact k v u w t d1 d2 d3 d4
theorem l_u {e : α} {f : α → W γ} {P : V → Prop} (hw : (W.bind (W.ret e) f).run Φ) (d : Z.D K Ho v e) (k : ∀ x v, Z.D K Ho v x → (f x).run Φ → P v) : P v := k e v d hw
theorem l_u2 {e : α} {f : α → W γ} {P : Prop} (hw : (W.bind (W.ret e) f).run Φ) (d : Z.D K Ho v e) (k : ∀ x, Z.D K Ho v x → (f x).run Φ → P) : P := k e d hw
theorem l_aug {te : TE} {tip : TIp} {u : TS} {D : Ends} (σ' : V → L2.St) (h : σ[i]? = some (some v)) (hσ : ∀ v, σ.set i (some v) = σ' v) (k : te σ H fun y H1 => tip v y H1 fun z H2 => LetV (fun v => u D (σ' v) H2) z) : tSeq (tAug i te tip) u D σ H := by
  refine y_aug σ' h hσ ?_
  exact k
end
/-! ### lists of unlike things -/
section
class Hc (α : Type) where
  cs : α → List PyData
structure H2 (α β : Type) where
  a : α
  b : β
  deriving DecidableEq
structure H3 (α β γ : Type) where
  a : α
  b : β
  c : γ
  deriving DecidableEq
structure H4 (α β γ δ : Type) where
  a : α
  b : β
  c : γ
  d : δ
  deriving DecidableEq
structure H5 (α β γ δ ε : Type) where
  a : α
  b : β
  c : γ
  d : δ
  e : ε
  deriving DecidableEq
instance {α β : Type} [Py α] [Py β] : Hc (H2 α β) := ⟨fun p => [toPy p.a, toPy p.b]⟩
instance {α β γ : Type} [Py α] [Py β] [Py γ] : Hc (H3 α β γ) := ⟨fun p => [toPy p.a, toPy p.b, toPy p.c]⟩
instance {α β γ δ : Type} [Py α] [Py β] [Py γ] [Py δ] : Hc (H4 α β γ δ) := ⟨fun p => [toPy p.a, toPy p.b, toPy p.c, toPy p.d]⟩
instance {α β γ δ ε : Type} [Py α] [Py β] [Py γ] [Py δ] [Py ε] : Hc (H5 α β γ δ ε) := ⟨fun p => [toPy p.a, toPy p.b, toPy p.c, toPy p.d, toPy p.e]⟩
instance {α : Type} [Hc α] : Py α := ⟨fun p => .list (Hc.cs p)⟩
variable {η : Type} [Hc η]
def OH (K : PySem.W.Frag) (Ho : Hp) (v : V) (x : η) (g : Grp) : Prop := ∃ p vs, v = .ref p ∧ DqAll K Ho vs (Hc.cs x) ∧ g = [(p, .lst vs)]
theorem OH.mo {v : V} {x : η} {g : Grp} (h : OH K Ho v x g) (e : Same Ho Ho') : OH K Ho' v x g := by
  obtain ⟨p, vs, rfl, d, rfl⟩ := h
  exact ⟨p, vs, rfl, dpAll_mono e _ _ d, rfl⟩
theorem atI_dq {vs : List V} {ds : List PyData} {i : Int} {d : PyData} (h : DqAll K H vs ds) (e : atI ds i = some d) : ∃ v, atI vs i = some v ∧ Dq K H v d := by
  unfold atI at e ⊢
  rw [dpAll_len h]
  cases q : ixN ds.length i with
  | none => rw [q] at e; cases e
  | some j => rw [q] at e; exact dpAll_get h e
theorem h_ix {x : η} {y : β} {i : Int} {g : Grp} (o : OH K Ho v x g) (z : Zs (g ++ R) H Ho) (hj : atI (Hc.cs x) i = some (toPy y)) (k : ∀ w, Z.D K Ho w y → Q w H) : rIxL K v (.int i) H Q := by
  obtain ⟨p, vs, rfl, d, rfl⟩ := o
  obtain ⟨w, ew, dw⟩ := atI_dq d hj
  exact ⟨p, vs, i, w, rfl, rfl, SqL.of z.head, ew, k w dw⟩
theorem h_st {x y : η} {e : β} {i : Int} {j : Nat} {g : Grp} {QH : Hp → Prop} (z : Zs (g ++ R) H Ho) (o : OH K Ho v x g) (dx : Z.D K Ho w e) (hj : ixN (Hc.cs x).length i = some j) (hy : Hc.cs y = (Hc.cs x).set j (toPy e)) (k : ∀ g' H', Zs (g' ++ R) H' Ho → OH K Ho v y g' → QH H') : rSetL v (.int i) w H QH := by
  obtain ⟨p, vs, rfl, d, rfl⟩ := o
  refine ⟨p, vs, i, j, rfl, rfl, z.head, by rw [dpAll_len d]; exact hj, k _ _ z.put ⟨p, _, rfl, ?_, rfl⟩⟩
  rw [hy]
  exact dpAll_set d dx j
theorem OH.fr {x : η} {g : Grp} (h : OH K Ho v x g) (z : Zs (g ++ R) H Ho) : ∃ Ho', Same Ho Ho' ∧ Zs R H Ho' ∧ Z.D K Ho' v x := by
  obtain ⟨p, vs, rfl, d, rfl⟩ := h
  have z : Zs ((p, .lst vs) :: R) H Ho := z
  have e : Same Ho (upd Ho p (.lst vs)) := Same.new z.headN
  exact ⟨_, e, z.freeze, .lst (SqL.of upd_same) (dpAll_mono e _ _ d)⟩
theorem h_fr {P : Prop} {x : η} {g : Grp} (o : OH K Ho v x g) (z : Zs (g ++ R) H Ho) (k : ∀ Ho', Same Ho Ho' → Zs R H Ho' → Z.D K Ho' v x → P) : P := by
  obtain ⟨Ho', e, z', d⟩ := o.fr z
  exact k Ho' e z' d
theorem h_nm {P : Prop} {e : η} {g : Grp} {f : η → W γ} (hw : (W.bind (W.ret e) f).run Φ) (o : OH K Ho v e g) (k : ∀ x, OH K Ho v x g → (f x).run Φ → P) : P := k e o hw
theorem h_nmL {P : Prop} {e : List α} {g : Grp} {f : List α → W γ} (hw : (W.bind (W.ret e) f).run Φ) (o : OL K Ho v e g) (k : ∀ x, OL K Ho v x g → (f x).run Φ → P) : P := k e o hw
theorem h_o {G : V → Prop} {e : η} {g : Grp} {f : η → W γ} (hw : (W.bind (W.ret e) f).run Φ) (z : Zs (g ++ R) H Ho) (o : OH K Ho v e g) (k : ∀ x v g, Zs (g ++ R) H Ho → OH K Ho v x g → (f x).run Φ → G v) : LetV G v := k e v g z o hw
/-- the display [a, b, ..] of unlike things -/
theorem h_lst {vs : List V} {x : η} (z : Zs R H Ho) (hx : DqAll K Ho vs (Hc.cs x)) (hl : vs.length ≤ sizeLine) (k : ∀ H' p g, Zs (g ++ R) H' Ho → OH K Ho (.ref p) x g → Q (.ref p) H') : vs.length ≤ sizeLine ∧ ∀ p, H p = none → Q (.ref p) (upd H p (.lst vs)) :=
  ⟨hl, fun p hp => k _ p _ (z.root hp) ⟨p, _, rfl, hx, rfl⟩⟩
end
end
section
variable {K : PySem.W.Frag} {H Ho H' Ho' : Hp} {α β γ : Type} [Py α] [Py β] {Φ : γ → Prop} {R rs : Grp} {v w : V} {Q : VK} {σ : L2.St}
theorem y_get {P : Prop} {x : Option β} {f : β → W γ} (d : Z.D K Ho v x) (hw : (W.bind (W.opt x) f).run Φ) (k : ∀ t, Z.D K Ho v t → (f t).run Φ → P) : P := by
  obtain ⟨t, rfl, hw⟩ := hw
  exact k t d hw
theorem y_lstRg {te : L2.St → Hp → (Int → Int → Hp → Prop) → Prop} (k : te σ H fun a b H1 => RgOk a b ∧ ∀ q, H1 q = none → Q (.ref q) (upd H1 q (.lst (rgV a b)))) : tLstRg te σ H Q := k
theorem y_rg1 {ta : TE} {QR : Int → Int → Hp → Prop} (k : ta σ H fun x H1 => ∃ n, x = .int n ∧ QR 0 n H1) : tRg1 ta σ H QR := k
theorem y_rg2 {ta tb : TE} {QR : Int → Int → Hp → Prop} (k : ta σ H fun x H1 => tb σ H1 fun y H2 => ∃ i j, x = .int i ∧ y = .int j ∧ QR i j H2) : tRg2 ta tb σ H QR := k
theorem y_rg1v {QR : Int → Int → Hp → Prop} {n : Int} (k : QR 0 n H) : ∃ m, V.int n = .int m ∧ QR 0 m H := ⟨n, rfl, k⟩
theorem y_rg2v {QR : Int → Int → Hp → Prop} {i j : Int} (k : QR i j H) : ∃ i' j', V.int i = .int i' ∧ V.int j = .int j' ∧ QR i' j' H := ⟨i, j, rfl, rfl, k⟩
theorem rgV_rng {a b : Int} : rgV a b = (rng a b).map V.int := by
  unfold rgV rng
  rw [List.map_map]
  rfl
theorem y_listR {a b : Int} (z : Zs rs H Ho) (hg : RgOk a b) (k : ∀ H' p ws, Zs ((p, .lst ws) :: rs) H' Ho → DL K Ho ws (rng a b) → Q (.ref p) H') : RgOk a b ∧ ∀ q, H q = none → Q (.ref q) (upd H q (.lst (rgV a b))) :=
  ⟨hg, fun q hq => by rw [rgV_rng]; exact k _ q _ (z.root hq) ints_dl⟩
theorem dpAll_lenT {x : α} {ds : List PyData} (hx : toPy x = .tuple ds) (d : Z.D K Ho v x) (z : Zs rs H Ho) (k : Q (.int (ds.length : Int)) H) : rLenZ K [v] H Q := by
  have d : Dq K Ho v (toPy x) := d
  rw [hx] at d
  cases d with
  | tup hs ha =>
    refine ⟨_, _, rfl, .inr (SqT.of (z.le _ _ hs)), ?_⟩
    rw [dpAll_len ha]; exact k
end
/-! ### what is asked of a value, not taken apart too early -/
section
variable {K : PySem.W.Frag} {H Ho H' Ho' : Hp} {α β γ : Type} [Py α] [Py β] {Φ : γ → Prop} {rs r0 : Grp} {v w u : V} {vs : List V} {Q : VK} {σ : L2.St} {ts : TA} {te : TE} {R : It → Hp → Prop}
def LstK (Q : VK) (vs : List V) (H : Hp) : Prop := vs.length ≤ sizeLine ∧ ∀ p, H p = none → Q (.ref p) (upd H p (.lst vs))
def TupK (Q : VK) (vs : List V) (H : Hp) : Prop := vs.length ≤ sizeLine ∧ ∀ p, H p = none → Q (.ref p) (upd H p (.tup vs))
def RgK (Q : VK) (a b : Int) (H : Hp) : Prop := RgOk a b ∧ ∀ q, H q = none → Q (.ref q) (upd H q (.lst (rgV a b)))
theorem k_lst (k : ts σ H fun xs H1 => LstK Q xs H1) : tLst ts σ H Q := k
theorem k_tup (k : ts σ H fun xs H1 => TupK Q xs H1) : tTup ts σ H Q := k
theorem k_lstk {xs : List α} (z : Zs rs H Ho) (d : DL K Ho vs xs) (hl : vs.length ≤ sizeLine) (k : ∀ H' p ws, Zs ((p, .lst ws) :: rs) H' Ho → DL K Ho ws xs → Q (.ref p) H') : LstK Q vs H := y_lstk z d hl k
theorem k_tupk {x : α} (z : Zs rs H Ho) (hl : vs.length ≤ sizeLine) (ds : List PyData) (hx : toPy x = .tuple ds) (d : DqAll K Ho vs ds) (k : ∀ p H' Ho', Same Ho Ho' → Zs rs H' Ho' → Z.D K Ho' (.ref p) x → Q (.ref p) H') : TupK Q vs H := y_tupk z hl ds hx d k
theorem k_hlst {η : Type} [Hc η] {x : η} (z : Zs rs H Ho) (hx : DqAll K Ho vs (Hc.cs x)) (hl : vs.length ≤ sizeLine) (k : ∀ H' p g, Zs (g ++ rs) H' Ho → OH K Ho (.ref p) x g → Q (.ref p) H') : LstK Q vs H := h_lst z hx hl k
theorem k_lstRg {tr : L2.St → Hp → (Int → Int → Hp → Prop) → Prop} (k : tr σ H fun a b H1 => RgK Q a b H1) : tLstRg tr σ H Q := k
theorem k_listR {a b : Int} (z : Zs rs H Ho) (hg : RgOk a b) (k : ∀ H' p ws, Zs ((p, .lst ws) :: rs) H' Ho → DL K Ho ws (rng a b) → Q (.ref p) H') : RgK Q a b H := y_listR z hg k
def SrcL (K : PySem.W.Frag) (R : It → Hp → Prop) (x : V) (H : Hp) : Prop := ∃ a, x = .ref a ∧ (∃ xs, SqL K H a xs) ∧ R (Itl K a) H
def SrcT (K : PySem.W.Frag) (R : It → Hp → Prop) (x : V) (H : Hp) : Prop := ∃ a, x = .ref a ∧ (∃ xs, SqT K H a xs) ∧ R (Itt K a) H
def Src1 (R : It → Hp → Prop) (vs : List V) (H : Hp) : Prop := ∃ j : Int, vs = [.int j] ∧ -(2 ^ 62) ≤ j ∧ j < 2 ^ 62 ∧ R (Itr 0 j.toNat) H
def Src2 (R : It → Hp → Prop) (vs : List V) (H : Hp) : Prop := ∃ i j : Int, vs = [.int i, .int j] ∧ (-(2 ^ 62) ≤ i ∧ i < 2 ^ 62 ∧ -(2 ^ 62) ≤ j ∧ j < 2 ^ 62) ∧ R (Itr i (j - i).toNat) H
def Src3 (R : It → Hp → Prop) (vs : List V) (H : Hp) : Prop := ∃ (a b c : Int) (n : Nat), vs = [.int a, .int b, .int c] ∧ RgC a b c n ∧ R (Itc a c n) H
def SrcZ (K : PySem.W.Frag) (R : It → Hp → Prop) (vs : List V) (H : Hp) : Prop := ∃ a b xs ys, vs = [.ref a, .ref b] ∧ SqL K H a xs ∧ SqL K H b ys ∧ R (Itz K a b) H
def SrcE (K : PySem.W.Frag) (R : It → Hp → Prop) (vs : List V) (H : Hp) : Prop := ∃ a xs, vs = [.ref a] ∧ SqL K H a xs ∧ R (Ite K a) H
def SrcV (K : PySem.W.Frag) (R : It → Hp → Prop) (vs : List V) (H : Hp) : Prop := ∃ a xs, vs = [.ref a] ∧ SqL K H a xs ∧ R (Itv K a xs.length) H
theorem k_iList (k : te σ H fun x H1 => SrcL K R x H1) : iList K te σ H R := k
theorem k_iTup (k : te σ H fun x H1 => SrcT K R x H1) : iTup K te σ H R := k
theorem k_iR1 (k : ts σ H fun vs H1 => Src1 R vs H1) : iRng1 ts σ H R := k
theorem k_iR2 (k : ts σ H fun vs H1 => Src2 R vs H1) : iRng2 ts σ H R := k
theorem k_iR3 (k : ts σ H fun vs H1 => Src3 R vs H1) : iRng3 ts σ H R := k
theorem k_iZip (k : ts σ H fun vs H1 => SrcZ K R vs H1) : iZip K ts σ H R := k
theorem k_iEnum (k : ts σ H fun vs H1 => SrcE K R vs H1) : iEnum K ts σ H R := k
theorem k_iRev (k : ts σ H fun vs H1 => SrcV K R vs H1) : iRev K ts σ H R := k
theorem k_srcL {xs : List α} (d : LV K r0 Ho v xs) (hs : ∀ r ∈ r0, r ∈ rs) (z : Zs rs H Ho) (k : ∀ J, Trn K r0 J xs Ho → R J H) : SrcL K R v H := y_srcL d hs z k
theorem k_srcT {x : β} {xs : List α} (d : Z.D K Ho v x) (hf : toPy x = .tuple (xs.map Py.toPy)) (z : Zs rs H Ho) (k : ∀ J, Trn K [] J xs Ho → R J H) : SrcT K R v H := y_srcT d hf z k
theorem k_srcR1 {n : Int} (hg : rngOk 0 n) (k : ∀ J, Trn K [] J (rng 0 n) Ho → R J H) : Src1 R [V.int n] H := y_srcR1 hg k
theorem k_srcR2 {a b : Int} (hg : rngOk a b) (k : ∀ J, Trn K [] J (rng a b) Ho → R J H) : Src2 R [V.int a, V.int b] H := y_srcR2 hg k
theorem k_srcR3 {a b : Int} (hg : rngOk b a) (k : ∀ J, Trn K [] J (rngD a b) Ho → R J H) : Src3 R [V.int a, V.int b, V.int (-1)] H := y_srcR3 hg k
theorem k_srcZ {xs : List α} {ys : List β} (d : LV K r0 Ho v xs) (d' : LV K r0 Ho u ys) (hs : ∀ r ∈ r0, r ∈ rs) (z : Zs rs H Ho) (k : ∀ J, Trn K r0 J (xs.zip ys) Ho → R J H) : SrcZ K R [v, u] H := y_srcZ d d' hs z k
theorem k_srcE {xs : List α} (d : LV K r0 Ho v xs) (hs : ∀ r ∈ r0, r ∈ rs) (z : Zs rs H Ho) (k : ∀ J, Trn K r0 J (enumZ xs) Ho → R J H) : SrcE K R [v] H := y_srcE d hs z k
theorem k_srcV {xs : List α} (d : LV K r0 Ho v xs) (hs : ∀ r ∈ r0, r ∈ rs) (z : Zs rs H Ho) (k : ∀ J, Trn K r0 J xs.reverse Ho → R J H) : SrcV K R [v] H := y_srcV d hs z k
theorem y_nxS {D : Ends} {u : TS} (k : u D σ H) : tNext { D with nx := u D } σ H := k
end
section
variable {K : PySem.W.Frag} {H Ho H' Ho' : Hp} {α β γ : Type} [Py α] [Py β] {Φ : γ → Prop} {rs R : Grp} {v w : V} {Q : VK} {σ : L2.St} {ta : TA} {D : Ends} {u : TS} {i j : Nat}
theorem not_isNone {x : Option β} : (!x.isNone) = x.isSome := by cases x <;> rfl
def rInsert : V → List V → Hp → VK → Prop := fun x vs H Q => ∃ (l : Addr) (xs : List V) (i : Int) (y : V), x = .ref l ∧ vs = [.int i, y] ∧ H l = some (.lst xs) ∧ xs.length < sizeLine ∧ 0 ≤ i ∧ i < 2 ^ 63 ∧ Q .non (upd H l (.lst (xs.take i.toNat ++ [y] ++ xs.drop i.toNat)))
theorem zmt_insert {X : Cx} : MtR X "list.insert" rInsert := mt_insert
theorem k_ins {xs : List α} {x : α} {i : Int} {g : Grp} {f : List α → W γ} (z : Zs (g ++ R) H Ho) (o : OL K Ho v xs g) (dx : Z.D K Ho w x) (hw : (W.bind (insL xs i x) f).run Φ) (k : ∀ xs' g' H', Zs (g' ++ R) H' Ho → OL K Ho v xs' g' → (f xs').run Φ → Q .non H') : rInsert v [.int i, w] H Q := g_ins z o dx hw k
def Par2 (G : V → V → Prop) (vs : List V) : Prop := ∃ v w, vs = [v, w] ∧ G v w
theorem l_par (σ' : V → V → L2.St) (hσ : ∀ v w, (σ.set i (some v)).set j (some w) = σ' v w) (k : ta σ H fun vs H1 => Par2 (fun v w => u D (σ' v w) H1) vs) : tSeq (tPar i j ta) u D σ H := by
  have e : (fun vs H1 => Par2 (fun v w => u D (σ' v w) H1) vs) = fun vs H1 => ∃ v w, vs = [v, w] ∧ u D ((σ.set i (some v)).set j (some w)) H1 := by
    funext vs H1
    unfold Par2
    simp only [hσ]
  rw [e] at k
  exact k
theorem l_par2 {G : V → V → Prop} (k : LetV (fun v => LetV (fun w => G v w) w) v) : Par2 G [v, w] := ⟨v, w, rfl, k⟩
end
section
variable {K : PySem.W.Frag} {H Ho : Hp} {rs : Grp} {vs : List V} {Q : VK} {σ : L2.St} {ts : TA}
theorem k_tcs {QV : VK} (z : Zs rs H Ho) (ht : TCs ts vs) (hl : vs.length ≤ sizeLine) (k : ∀ p H' Ho', Same Ho Ho' → Zs rs H' Ho' → H' p = some (.tup vs) → QV (.ref p) H') : tTup ts σ H QV :=
  ht.run ⟨hl, fun p hp => k p _ _ (Same.new (z.free hp)) (z.alloc hp) upd_same⟩
theorem k_isXT {cl : Nat → Addr} {n : Nat} {a p : Addr} {us : List Value} {b : Bool} (hp : H p = some (.tup vs)) (xc : ExcC K (cl n)) (k : Paired ClsV vs us) (e : PySem.W.kitAny K (.ref (cl n)) us = some b) (q : Q (.bl b) H) : rIsXT K a (.ref (cl n)) none [.ref a, .ref p] H Q :=
  ⟨_, p, vs, us, b, rfl, rfl, rfl, hp, k, xc, e, q⟩
end
end Z

/-! # dicts with int keys and with keys of two ints -/
namespace Z
open PySem L2
theorem room1 {k : Nat} {A : Around} (r : Room k A) : A.units + 1 < cLine := by have := r.un; omega
abbrev Dc (κ α : Type) := List (κ × α)
section
variable {κ α : Type} [DecidableEq κ]
def valM (m : Dc κ α) (k : κ) : Option α := (m.find? fun p => decide (p.1 = k)).map (·.2)
def putM (m : Dc κ α) (k : κ) (a : α) : Dc κ α := if (m.any fun p => decide (p.1 = k)) = true then m.map (fun p => if p.1 = k then (p.1, a) else p) else m ++ [(k, a)]
def putG (m : Dc κ α) (k : κ) (a : α) : W (Dc κ α) := W.guard (m.length < sizeLine) (W.ret (putM m k a))
end
class DKey (κ : Type) [Py κ] where
  kt : Type
  dec : DecidableEq kt
  key : κ → kt
  inj : ∀ {a b : κ}, key a = key b → a = b
  ho : List (kt × V) → HO
  nt : ∀ kvs, NotTup (ho kvs) := by intro kvs; exact trivial
  get : ∀ {K : PySem.W.Frag} {H Ho : Hp} {v : V} {k : κ} {p : Addr} {kvs : List (kt × V)}, H p = some (ho kvs) → Same Ho H → Z.D K Ho v k → DGet H p v (@valV kt dec kvs (key k))
  put : ∀ {K : PySem.W.Frag} {H Ho : Hp} {v y : V} {k : κ} {p : Addr} {kvs : List (kt × V)}, H p = some (ho kvs) → Same Ho H → Z.D K Ho v k → kvs.length < sizeLine → DPut H p v y (upd H p (ho (@putK kt dec kvs (key k) y)))
  isd : ∀ {H : Hp} {p : Addr} {kvs : List (kt × V)}, H p = some (ho kvs) → IsD H p
instance : DKey Int where
  kt := L2.Key
  dec := inferInstance
  key i := .inl i
  inj h := by cases h; rfl
  ho := .dK
  get e _ d := by rw [d_int d]; exact DGet.k (k := .inl _) e
  put e _ d h := by rw [d_int d]; exact DPut.k (k := .inl _) e h
  isd e := .inl ⟨_, .inl e⟩
instance : DKey (Int × Int) where
  kt := List L2.Key
  dec := inferInstance
  key p := [.inl p.1, .inl p.2]
  inj h := by
    rename_i a b
    obtain ⟨a1, a2⟩ := a
    obtain ⟨b1, b2⟩ := b
    simp only [List.cons.injEq, Sum.inl.injEq, and_true] at h
    rw [h.1, h.2]
  ho := .dT
  get e s d := by
    cases d with
    | tup hs ha =>
      cases ha with
      | cons h1 h2 =>
        cases h2 with
        | cons h3 h4 =>
          cases h4
          rw [d_int h1, d_int h3] at hs
          exact DGet.t e (s _ _ hs)
  put e s d h := by
    cases d with
    | tup hs ha =>
      cases ha with
      | cons h1 h2 =>
        cases h2 with
        | cons h3 h4 =>
          cases h4
          rw [d_int h1, d_int h3] at hs
          exact DPut.t e (s _ _ hs) h
  isd e := .inr ⟨_, .inl e⟩
section
variable {K : PySem.W.Frag} {H Ho H' Ho' : Hp} {κ α γ : Type} [Py κ] [DecidableEq κ] [DKey κ] [Py α] {Φ : γ → Prop} {R : Grp} {v w u : V} {Q : VK} {σ : L2.St}

def DM (K : PySem.W.Frag) (Ho : Hp) (kvs : List (DKey.kt κ × V)) (m : Dc κ α) : Prop := kvs.map (·.1) = m.map (fun p => DKey.key p.1) ∧ DL K Ho (kvs.map (·.2)) (m.map (·.2))
theorem DM.len {kvs : List (DKey.kt κ × V)} {m : Dc κ α} (h : DM K Ho kvs m) : kvs.length = m.length := by
  have := congrArg List.length h.1
  simpa using this
theorem DM.val : ∀ {kvs : List (DKey.kt κ × V)} {m : Dc κ α}, DM K Ho kvs m → ∀ k : κ, (valM m k = none → @valV _ DKey.dec kvs (DKey.key k) = none) ∧ ∀ a, valM m k = some a → ∃ x, @valV _ DKey.dec kvs (DKey.key k) = some x ∧ Z.D K Ho x a
  | [], [], _, k => ⟨fun _ => rfl, fun a e => by cases e⟩
  | [], _ :: _, h, _ => by cases h.1
  | _ :: _, [], h, _ => by cases h.1
  | (k1, x) :: kvs, (k2, a) :: m, h, k => by
    obtain ⟨h1, h2⟩ := h
    simp only [List.map_cons, List.cons.injEq] at h1
    cases h2 with
    | cons d ds =>
      have ih := DM.val (kvs := kvs) (m := m) ⟨h1.2, ds⟩ k
      by_cases c : k2 = k
      · have e1 : valM ((k2, a) :: m) k = some a := by simp [valM, List.find?_cons, c]
        have e2 : @valV _ DKey.dec ((k1, x) :: kvs) (DKey.key k) = some x := @valV_pos _ DKey.dec (k1, x) kvs (DKey.key k) (by rw [← c]; exact h1.1)
        rw [e1, e2]
        exact ⟨fun z => (nomatch z), fun b e => ⟨x, rfl, by cases e; exact d⟩⟩
      · have e1 : valM ((k2, a) :: m) k = valM m k := by simp [valM, List.find?_cons, c]
        have e2 : @valV _ DKey.dec ((k1, x) :: kvs) (DKey.key k) = @valV _ DKey.dec kvs (DKey.key k) := @valV_neg _ DKey.dec (k1, x) kvs (DKey.key k) (fun z => c (DKey.inj (h1.1.symm.trans z)))
        rw [e1, e2]
        exact ih
theorem valM_any (k : κ) : ∀ m : Dc κ α, (m.any fun p => decide (p.1 = k)) = (valM m k).isSome
  | [] => rfl
  | p :: r => by
    rw [List.any_cons]
    by_cases e : p.1 = k
    · have : valM (p :: r) k = some p.2 := by simp [valM, List.find?_cons, e]
      rw [this, decide_eq_true e]; rfl
    · have : valM (p :: r) k = valM r k := by simp [valM, List.find?_cons, e]
      rw [this, decide_eq_false e, Bool.false_or, valM_any k r]
theorem DM.some {kvs : List (DKey.kt κ × V)} {m : Dc κ α} (h : DM K Ho kvs m) (k : κ) : (@valV _ DKey.dec kvs (DKey.key k)).isSome = (valM m k).isSome := by
  obtain ⟨h1, h2⟩ := h.val k
  cases e : valM m k with
  | none => rw [h1 e]; rfl
  | some a => obtain ⟨x, ex, _⟩ := h2 a e; rw [ex]; rfl
theorem DM.mapped {x : V} {a : α} (k : κ) (d : Z.D K Ho x a) : ∀ {kvs : List (DKey.kt κ × V)} {m : Dc κ α}, DM K Ho kvs m →
    DM K Ho (kvs.map fun kv => @ite _ (kv.1 = DKey.key k) (DKey.dec kv.1 (DKey.key k)) (kv.1, x) kv) (m.map fun p => if p.1 = k then (p.1, a) else p)
  | [], [], _ => ⟨rfl, .nil⟩
  | [], _ :: _, h => by cases h.1
  | _ :: _, [], h => by cases h.1
  | (k1, y) :: kvs, (k2, b) :: m, h => by
    obtain ⟨h1, h2⟩ := h
    simp only [List.map_cons, List.cons.injEq] at h1
    cases h2 with
    | cons e es =>
      obtain ⟨i1, i2⟩ := DM.mapped k d (kvs := kvs) (m := m) ⟨h1.2, es⟩
      by_cases c : k2 = k
      · have c' : k1 = DKey.key k := by rw [← c]; exact h1.1
        refine ⟨?_, ?_⟩
        · rw [List.map_cons, List.map_cons, List.map_cons, List.map_cons, i1, if_pos c, if_pos c']
          show k1 :: _ = DKey.key k2 :: _
          rw [h1.1]
        · rw [List.map_cons, List.map_cons, List.map_cons, List.map_cons, if_pos c, if_pos c']
          exact .cons d i2
      · have c' : ¬ k1 = DKey.key k := fun z => c (DKey.inj (h1.1.symm.trans z))
        refine ⟨?_, ?_⟩
        · rw [List.map_cons, List.map_cons, List.map_cons, List.map_cons, i1, if_neg c, if_neg c']
          show k1 :: _ = DKey.key k2 :: _
          rw [h1.1]
        · rw [List.map_cons, List.map_cons, List.map_cons, List.map_cons, if_neg c, if_neg c']
          exact .cons e i2
theorem DM.put {x : V} {a : α} {k : κ} {kvs : List (DKey.kt κ × V)} {m : Dc κ α} (h : DM K Ho kvs m) (d : Z.D K Ho x a) : DM K Ho (@putK _ DKey.dec kvs (DKey.key k) x) (putM m k a) := by
  unfold putK putM
  rw [@valV_any _ DKey.dec, valM_any, h.some k]
  split
  · exact DM.mapped k d h
  · refine ⟨?_, ?_⟩
    · rw [List.map_append, List.map_append, h.1]; rfl
    · rw [List.map_append, List.map_append]
      exact DL.push h.2 d
theorem DM.mo {kvs : List (DKey.kt κ × V)} {m : Dc κ α} (h : DM K Ho kvs m) (e : Same Ho Ho') : DM K Ho' kvs m := ⟨h.1, DL.mo h.2 e⟩
/-- a dict of its own -/
def OD (K : PySem.W.Frag) (Ho : Hp) (v : V) (m : Dc κ α) (g : Grp) : Prop := ∃ p kvs, v = .ref p ∧ DM K Ho kvs m ∧ g = [(p, DKey.ho (κ := κ) kvs)]
theorem OD.mo {m : Dc κ α} {g : Grp} (h : OD K Ho v m g) (e : Same Ho Ho') : OD K Ho' v m g := by
  obtain ⟨p, kvs, rfl, d, rfl⟩ := h
  exact ⟨p, kvs, rfl, d.mo e, rfl⟩
/-- a dict that is read -/
def BD (K : PySem.W.Frag) (R : Grp) (Ho : Hp) (v : V) (m : Dc κ α) : Prop := ∃ g, OD K Ho v m g ∧ ∀ r ∈ g, r ∈ R
theorem BD.mo {m : Dc κ α} (h : BD K R Ho v m) (e : Same Ho Ho') : BD K R Ho' v m := by
  obtain ⟨g, o, s⟩ := h
  exact ⟨g, o.mo e, s⟩
theorem BD.sub {m : Dc κ α} {R' : Grp} (h : BD K R Ho v m) (e : ∀ r ∈ R, r ∈ R') : BD K R' Ho v m := by
  obtain ⟨g, o, s⟩ := h
  exact ⟨g, o, fun r m => e r (s r m)⟩
theorem BD.rd {m : Dc κ α} (h : BD K R Ho v m) (z : Zs R H Ho) : ∃ p kvs, v = .ref p ∧ DM K Ho kvs m ∧ H p = some (DKey.ho (κ := κ) kvs) := by
  obtain ⟨g, ⟨p, kvs, rfl, d, rfl⟩, s⟩ := h
  exact ⟨p, kvs, rfl, d, (z.rt _ (s _ (List.mem_singleton.mpr rfl))).1⟩
theorem d_o {G : V → Prop} {e : Dc κ α} {g : Grp} {f : Dc κ α → W γ} (hw : (W.bind (W.ret e) f).run Φ) (z : Zs (g ++ R) H Ho) (o : OD K Ho v e g) (k : ∀ x v g, Zs (g ++ R) H Ho → OD K Ho v x g → (f x).run Φ → G v) : LetV G v := k e v g z o hw
theorem g_dnewK (z : Zs R H Ho) (k : ∀ H' v g, Zs (g ++ R) H' Ho → OD K Ho v ([] : Dc Int α) g → Q v H') : tDNewK σ H Q := fun p hp => k _ _ _ (z.root hp) ⟨p, [], rfl, ⟨rfl, .nil⟩, rfl⟩
theorem g_dnewT (z : Zs R H Ho) (k : ∀ H' v g, Zs (g ++ R) H' Ho → OD K Ho v ([] : Dc (Int × Int) α) g → Q v H') : tDNewT σ H Q := fun p hp => k _ _ _ (z.root hp) ⟨p, [], rfl, ⟨rfl, .nil⟩, rfl⟩
/-! reading -/
theorem zsl_tup {X : Cx} (hK : X.K = K) : SlR X (rSlT K) := hK ▸ sl_tup
theorem dpAll_cut {vs : List V} {ds : List PyData} (h : DqAll K H vs ds) (lo hi : Option Int) : DqAll K H (cutV vs lo hi) (Z.cut ds lo hi) := by
  unfold cutV Z.cut
  rw [dpAll_len h]
  exact dpAll_take (dpAll_drop h _) _
theorem y_slT {β δ : Type} [Py β] [Py δ] {x : β} {y : δ} {lo hi : Option Int} (d : Z.D K Ho v x) (z : Zs R H Ho) (hj : ∃ ds, toPy x = .tuple ds ∧ ¬ (HT.sIx ds.length 0 lo = 0 ∧ HT.sIx ds.length ds.length hi = ds.length) ∧ toPy y = .tuple (Z.cut ds lo hi))
    (k : ∀ p H' Ho', Same Ho Ho' → Zs R H' Ho' → Z.D K Ho' (.ref p) y → Q (.ref p) H') : rSlT K v lo hi H Q := by
  obtain ⟨ds, e1, e2, e3⟩ := hj
  have d : Dq K Ho v (toPy x) := d
  rw [e1] at d
  cases d with
  | tup hs ha =>
    refine ⟨_, _, rfl, SqT.of (z.le _ _ hs), by rw [dpAll_len ha]; exact e2, fun q hq => ?_⟩
    have nf := z.free hq
    refine k q _ _ (Same.new nf) (z.alloc hq) ?_
    show Dq K _ _ (toPy y)
    rw [e3]
    exact .tup upd_same (dpAll_mono (Same.new nf) _ _ (dpAll_cut ha lo hi))
/-! tuples of one kind, of any length -/
theorem zsl_tupA {X : Cx} (hK : X.K = K) : SlR X (rSlA K) := hK ▸ sl_tupA
theorem zop_catA {X : Cx} (hK : X.K = K) : OpR X (binaryOp .Add) (rCatA K) := hK ▸ op_catA
theorem y_slTp {β : Type} [Py β] {x : Tp β} {lo hi : Option Int} (d : Z.D K Ho v x) (z : Zs R H Ho) (k : ∀ w H' Ho', Same Ho Ho' → Zs R H' Ho' → Z.D K Ho' w (⟨Z.cut x.l lo hi⟩ : Tp β) → Q w H') : rSlA K v lo hi H Q := by
  have d0 := d
  cases d with
  | tup hs ha =>
    have hl : _ = x.l.length := (dpAll_len ha).trans (by simp)
    refine ⟨_, _, rfl, SqT.of (z.le _ _ hs), fun hw => ?_, fun hn q hq => ?_⟩
    · refine k _ _ _ (Same.refl _) z ?_
      have e : Z.cut x.l lo hi = x.l := by
        unfold Z.cut
        rw [← hl, hw.1, hw.2]
        simp [hl]
      show Z.D K Ho _ (⟨Z.cut x.l lo hi⟩ : Tp β)
      rw [e]
      exact d0
    · have nf := z.free hq
      refine k (.ref q) _ _ (Same.new nf) (z.alloc hq) ?_
      exact .tup upd_same (dpAll_mono (Same.new nf) _ _ (DL.cut (xs := x.l) ha lo hi))
theorem y_catTp {β : Type} [Py β] {x y : Tp β} (d1 : Z.D K Ho v x) (d2 : Z.D K Ho w y) (z : Zs R H Ho) (hg : x.l.length + y.l.length ≤ sizeLine) (k : ∀ u H' Ho', Same Ho Ho' → Zs R H' Ho' → Z.D K Ho' u (⟨x.l ++ y.l⟩ : Tp β) → Q u H') : rCatA K v w H Q := by
  have d1' := d1
  have d2' := d2
  obtain ⟨xs⟩ := x
  obtain ⟨ys⟩ := y
  cases d1 with
  | tup hs ha =>
    cases d2 with
    | tup hs2 ha2 =>
      have hl := dpAll_len ha
      have hl2 := dpAll_len ha2
      rw [List.length_map] at hl hl2
      refine ⟨_, _, _, _, rfl, rfl, SqT.of (z.le _ _ hs), SqT.of (z.le _ _ hs2), by rw [hl, hl2]; exact hg, fun e => ?_, fun _ e => ?_, fun _ _ q hq => ?_⟩
      · refine k _ _ _ (Same.refl _) z ?_
        have : xs = [] := List.length_eq_zero_iff.mp (by rw [← hl, e]; rfl)
        subst this
        exact d2'
      · refine k _ _ _ (Same.refl _) z ?_
        have : ys = [] := List.length_eq_zero_iff.mp (by rw [← hl2, e]; rfl)
        subst this
        show Z.D K Ho _ (⟨xs ++ []⟩ : Tp β)
        rw [List.append_nil]
        exact d1'
      · have nf := z.free hq
        refine k (.ref q) _ _ (Same.new nf) (z.alloc hq) ?_
        exact .tup upd_same (dpAll_mono (Same.new nf) _ _ (DL.append (xs := xs) (ys := ys) ha ha2))
def tp4 {β : Type} : Tp β → Option (P4 β β β β)
  | ⟨[a, b, c, d]⟩ => some ⟨a, b, c, d⟩
  | _ => none
theorem y_tp4 {β : Type} [Py β] {x : Tp β} {f : P4 β β β β → W γ} {P : Prop} (d : Z.D K Ho v x) (hw : (W.bind (W.opt (tp4 x)) f).run Φ) (k : ∀ t, Z.D K Ho v t → (f t).run Φ → P) : P := by
  obtain ⟨t, et, hw⟩ := hw
  refine k t ?_ hw
  obtain ⟨l⟩ := x
  match l, et with
  | [a, b, c, e], rfl => exact d
theorem zmt_indexD {X : Cx} (hK : X.K = K) (hu : X.A.units + 65 < cLine) : MtR X "list.index" (rIndexD K) := hK ▸ mt_indexD hu
/-- the first place of an equal one -/
def idxD {β : Type} [Py β] (x : β) (ys : List β) : Option Int := Option.map (fun n : Nat => (n : Int)) (ys.findIdx? fun y => eqD y x)
theorem d_ref {β : Type} [Py β] {ys : List β} : ∀ {v : V}, Z.D K H v ys → ∃ a, v = .ref a := fun {v} h => by
  obtain ⟨p, vs, e, _⟩ := LV.of (rs := []) h
  exact ⟨p, e⟩
theorem y_index {β : Type} [Py β] {x : β} {ys : List β} {f : Int → W γ} (d1 : Z.D K H w x) (d2 : Z.D K H v ys) (hg : okD x ∧ okD ys) (hw : (W.bind (W.opt (idxD x ys)) f).run Φ) (k : ∀ t, (f t).run Φ → Q (.int t) H) : rIndexD K v [w] H Q := by
  obtain ⟨t, et, hw⟩ := hw
  unfold idxD at et
  rw [Option.map_eq_some_iff] at et
  obtain ⟨n, en, rfl⟩ := et
  obtain ⟨hn, h1, h2⟩ := List.findIdx?_eq_some_iff_getElem.mp en
  obtain ⟨a, rfl⟩ := d_ref d2
  refine ⟨a, w, toPy x, ys.map Py.toPy, n, toPy ys[n], rfl, rfl, Dq.dp _ _ (shp hg.2) d2, Dq.dp _ _ (shp hg.1) d1, hg.2, hg.1, by rw [List.getElem?_map, List.getElem?_eq_getElem hn]; rfl, h1, fun m z' hm e => ?_, k n hw⟩
  rw [List.getElem?_map, List.getElem?_eq_getElem (by omega)] at e
  cases e
  simpa [eqD] using h2 m hm
def GGet (Q : VK) (x y : V) (H : Hp) : Prop := ∃ a v, x = .ref a ∧ DGet H a y (some v) ∧ Q v H
def GIn (Q : VK) (x y : V) (H : Hp) : Prop := ∃ a o, x = .ref a ∧ DGet H a y o ∧ Q (.bl o.isSome) H
def GNotIn (Q : VK) (x y : V) (H : Hp) : Prop := ∃ a o, x = .ref a ∧ DGet H a y o ∧ Q (.bl (!o.isSome)) H
def GGet1 (Q : VK) (a : Addr) (y : V) (H : Hp) : Prop := ∃ o, DGet H a y o ∧ Q (o.getD .non) H
def GGet2 (Q : VK) (a : Addr) (y z : V) (H : Hp) : Prop := ∃ o, DGet H a y o ∧ Q (o.getD z) H
def GPut (N : Hp → Prop) (x y v : V) (H : Hp) : Prop := ∃ a H4, x = .ref a ∧ DPut H a y v H4 ∧ N H4
section
variable {td ty tx tv : TE} {un : TS} {D : Ends}
theorem y_dget (k : td σ H fun x H1 => ty σ H1 fun y H2 => GGet Q x y H2) : tDGet td ty σ H Q := k
theorem y_din (k : ty σ H fun y H1 => td σ H1 fun x H2 => GIn Q x y H2) : tDIn ty td σ H Q := k
theorem y_dnotin (k : ty σ H fun y H1 => td σ H1 fun x H2 => GNotIn Q x y H2) : tDNotIn ty td σ H Q := k
theorem y_dget1 (k : td σ H fun x H1 => ∃ a, x = .ref a ∧ IsD H1 a ∧ ty σ H1 fun y H2 => GGet1 Q a y H2) : tDGet1 td ty σ H Q := k
theorem y_dget2 (k : td σ H fun x H1 => ∃ a, x = .ref a ∧ IsD H1 a ∧ ty σ H1 fun y H2 => tx σ H2 fun z H3 => GGet2 Q a y z H3) : tDGet2 td ty tx σ H Q := k
theorem y_dput (k : tv σ H fun v H1 => td σ H1 fun x H2 => ty σ H2 fun y H3 => GPut (fun H4 => un D σ H4) x y v H3) : tSeq (sDPut td ty tv) un D σ H := k
end
theorem g_dget {m : Dc κ α} {k : κ} {f : α → W γ} (b : BD K R Ho v m) (z : Zs R H Ho) (dk : Z.D K Ho w k) (hw : (W.bind (W.opt (valM m k)) f).run Φ) (kk : ∀ t u, Z.D K Ho u t → (f t).run Φ → Q u H) : GGet Q v w H := by
  obtain ⟨p, kvs, rfl, d, e⟩ := b.rd z
  obtain ⟨a, ea, hw⟩ := hw
  obtain ⟨x, ex, dx⟩ := (d.val k).2 a ea
  exact ⟨p, x, rfl, ex ▸ DKey.get e z.le dk, kk a x dx hw⟩
theorem g_din {m : Dc κ α} {k : κ} (b : BD K R Ho v m) (z : Zs R H Ho) (dk : Z.D K Ho w k) (kk : Q (.bl (valM m k).isSome) H) : GIn Q v w H := by
  obtain ⟨p, kvs, rfl, d, e⟩ := b.rd z
  exact ⟨p, _, rfl, DKey.get e z.le dk, by rw [d.some k]; exact kk⟩
theorem g_dnotin {m : Dc κ α} {k : κ} (b : BD K R Ho v m) (z : Zs R H Ho) (dk : Z.D K Ho w k) (kk : Q (.bl (!(valM m k).isSome)) H) : GNotIn Q v w H := by
  obtain ⟨p, kvs, rfl, d, e⟩ := b.rd z
  exact ⟨p, _, rfl, DKey.get e z.le dk, by rw [d.some k]; exact kk⟩
theorem g_isd {m : Dc κ α} {P : Addr → Prop} (b : BD K R Ho v m) (z : Zs R H Ho) (kk : ∀ a, v = .ref a → P a) : ∃ a, v = .ref a ∧ IsD H a ∧ P a := by
  obtain ⟨p, kvs, rfl, d, e⟩ := b.rd z
  exact ⟨p, rfl, DKey.isd e, kk p rfl⟩
theorem g_dget1 {m : Dc κ α} {k : κ} {a : Addr} (ea : v = .ref a) (b : BD K R Ho v m) (z : Zs R H Ho) (dk : Z.D K Ho w k) (kk : ∀ u, Z.D K Ho u (valM m k) → Q u H) : GGet1 Q a w H := by
  obtain ⟨p, kvs, e1, d, e⟩ := b.rd z
  rw [ea] at e1
  cases e1
  refine ⟨_, DKey.get e z.le dk, kk _ ?_⟩
  obtain ⟨h1, h2⟩ := d.val k
  cases q : valM m k with
  | none => rw [h1 q]; exact .non
  | some x => obtain ⟨y, ey, dy⟩ := h2 x q; rw [ey]; exact dy
theorem g_dget2 {m : Dc κ α} {k : κ} {a : Addr} {x : α} (ea : v = .ref a) (b : BD K R Ho v m) (z : Zs R H Ho) (dk : Z.D K Ho w k) (dx : Z.D K Ho u x) (kk : ∀ y, Z.D K Ho y ((valM m k).getD x) → Q y H) : GGet2 Q a w u H := by
  obtain ⟨p, kvs, e1, d, e⟩ := b.rd z
  rw [ea] at e1
  cases e1
  refine ⟨_, DKey.get e z.le dk, kk _ ?_⟩
  obtain ⟨h1, h2⟩ := d.val k
  cases q : valM m k with
  | none => rw [h1 q]; exact dx
  | some x => obtain ⟨y, ey, dy⟩ := h2 x q; rw [ey]; exact dy
theorem g_dput {m : Dc κ α} {k : κ} {x : α} {g : Grp} {N : Hp → Prop} {f : Dc κ α → W γ} (z : Zs (g ++ R) H Ho) (o : OD K Ho v m g) (dk : Z.D K Ho w k) (dx : Z.D K Ho u x) (hw : (W.bind (putG m k x) f).run Φ) (kk : ∀ m' g' H', Zs (g' ++ R) H' Ho → OD K Ho v m' g' → (f m').run Φ → N H') : GPut N v w u H := by
  obtain ⟨p, kvs, rfl, d, rfl⟩ := o
  obtain ⟨hl, hw⟩ := hw
  exact ⟨p, _, rfl, DKey.put z.head z.le dk (by rw [d.len]; exact hl), kk _ _ _ (z.put (hn := DKey.nt _)) ⟨p, _, rfl, d.put dx, rfl⟩ hw⟩
end
end Z

/-! # d.setdefault(k, v), k a tuple -/
namespace Z
open PySem PySem.Spec PyProof.Rows L2
section
variable {X : Cx} {pins : List (Addr × Obj)} {σ : L2.St} {H : Hp} {s : Shared} {a b : Addr} {kvs : List (List L2.Key × V)} {k : List L2.Key} {z : V} {r : Value} {A : Around} {E : Value → Shared → Prop}
theorem d_setdT {Q : Value → Shared → Prop} (hu : A.units + 1 < cLine) (I : Inv X pins σ H s) (e : H a = some (.dT kvs)) (eb : H b = some (.tup (k.map kV))) (l : kvs.length < sizeLine) (rz : RelV z r)
    (h1 : ∀ u w' s', valV kvs k = some u → RelV u w' → Inv X pins σ H s' → Q w' s') (h2 : valV kvs k = none → ∀ s', Inv X pins σ (upd H a (.dT (putK kvs k z))) s' → Q r s') :
    wpAny (model X.prog X.w) A (call (.builtin "dict.setdefault") [.ref a, .ref b, r]) Q E s := by
  obtain ⟨zz, hd, xs, rel, dd⟩ := dt_of I.hok e
  have hz : xs.length ≤ sizeLine := by rw [← Paired.length rel]; exact zz
  have hl : (putK kvs k z).length ≤ sizeLine := by have := length_putK kvs k z; omega
  have rv := rel.val k
  refine call_setdefault_heap (hsz := hz) (tupleKind_room_in1 hu) (key_of I.hok eb) hd dd (fun p hp => ?_) (fun hn h' dd' hs => ?_)
  · rw [hp] at rv
    cases hv : valV kvs k with
    | none => rw [hv] at rv; cases rv
    | some u =>
      rw [hv] at rv
      obtain ⟨w', hw, rw'⟩ := RelO.some_of (v := u) (o := some p.2) rv
      cases hw
      exact h1 u _ _ hv rw' (I.tok _)
  · rw [hn] at rv
    cases hv : valV kvs k with
    | some u =>
      rw [hv] at rv
      obtain ⟨w', hw, _⟩ := RelO.some_of (v := u) (o := none) rv
      cases hw
    | none =>
      refine h2 hv _ ?_
      obtain ⟨q, es, ep, hq, g2, g3, g4, _, g5⟩ := dd'
      refine d_write I (by rw [e]; exact True.intro) hs ⟨q, hq⟩ ⟨hl, hd, _, (rel.put k eb rz).keeps fun c ys ec => ?_, q, es, ep, hq, g2, g3, g4, g5⟩
      rw [upd_ne (ne_of ec e (fun z => nomatch z))]
      exact ec
def tDSetd (td ty tx : TE) : TE := fun σ H Q => td σ H fun x H1 => ∃ a, x = .ref a ∧ IsD H1 a ∧ ty σ H1 fun y H2 => tx σ H2 fun z H3 => ∃ kvs k b, H3 a = some (.dT kvs) ∧ y = .ref b ∧ H3 b = some (.tup (k.map kV)) ∧ kvs.length < sizeLine ∧
  (∀ u, valV kvs k = some u → Q u H3) ∧ (valV kvs k = none → Q z (upd H3 a (.dT (putK kvs k z))))
theorem pe_dsetd {o e f : Expr} {apos cpos : Pos} {td ty tx : TE} (hu : X.A.units + 1 < cLine) (ho : PE X o td) (he : PE X e ty) (hf : PE X f tx) (m : M2 X o "setdefault" apos e f cpos) : PE X (.Call (.Attribute o "setdefault" apos) [e, f] [] cpos) (tDSetd td ty tx) := by
  refine ⟨fun pins s σ H Q I h => ?_⟩
  refine wpAny_Call_method m.base m.few m.line PySem.F.plainAttrs_dict PySem.F.slot_dict_setdefault PySem.F.type_dict_setdefault (thn (ho.run pins s σ H _ I h) fun u s1 ⟨x, H1, I1, rx, a, ex, d, q1⟩ => ?_)
  subst ex
  obtain rfl : u = Value.ref a := rx
  obtain ⟨t1, t2, _⟩ := isD_at I1 d
  refine ⟨t1, t2, ?_⟩
  rw [m.trees]
  refine Calls.callWith_builtin rfl (Calls.evalArgs_plain (Calls.spliced_cons (thn (he.run pins s1 σ H1 _ I1 q1) fun iv s2 ⟨y, H2, I2, ry, q2⟩ =>
    Calls.spliced_cons (thn (hf.run pins s2 σ H2 _ I2 q2) fun fv s3 ⟨z, H3, I3, rz, kvs, k, b, e1, ey, eb, hl, g1, g2⟩ => Calls.spliced_nil ?_))))
  subst ey
  cases (show iv = Value.ref b from ry)
  exact d_setdT hu I3 e1 eb hl rz (fun u w' s4 hv rw' I4 => ⟨u, H3, I4, rw', g1 u hv⟩) fun hv s4 I4 => ⟨z, _, I4, rz, g2 hv⟩
end
end Z

/-! # a dict of its own whose values are lists of its own -/
namespace Z
open PySem L2
section
variable {K : PySem.W.Frag} {H Ho H' Ho' : Hp} {κ α γ : Type} [Py κ] [DecidableEq κ] [DKey κ] [Py α] {Φ : γ → Prop} {R : Grp} {v w u : V} {Q : VK} {σ : L2.St}
/-- an entry: the key, the list's place, what it holds -/
abbrev Ent (κ : Type) [Py κ] [DKey κ] := DKey.kt κ × (Addr × List V)
inductive EM (K : PySem.W.Frag) (Ho : Hp) : List (Ent κ) → Dc κ (List α) → Prop
  | nil : EM K Ho [] []
  | cons {e : Ent κ} {es : List (Ent κ)} {k : κ} {xs : List α} {m : Dc κ (List α)} (hk : e.1 = DKey.key k) (d : DL K Ho e.2.2 xs) (hn : valM m k = none) (h : EM K Ho es m) : EM K Ho (e :: es) ((k, xs) :: m)
def rowsE (es : List (Ent κ)) : Grp := es.map fun e => (e.2.1, HO.lst e.2.2)
def kvsE (es : List (Ent κ)) : List (DKey.kt κ × V) := es.map fun e => (e.1, V.ref e.2.1)
theorem EM.mo {es : List (Ent κ)} {m : Dc κ (List α)} (h : EM K Ho es m) (e : Same Ho Ho') : EM K Ho' es m := by
  induction h with
  | nil => exact .nil
  | cons hk d hn _ ih => exact .cons hk (DL.mo d e) hn ih
theorem EM.len {es : List (Ent κ)} {m : Dc κ (List α)} (h : EM K Ho es m) : es.length = m.length := by
  induction h with
  | nil => rfl
  | cons _ _ _ _ ih => simp [ih]
theorem valM_put' {k j : κ} {a : α} : ∀ {m : Dc κ α}, valM m j = none → j ≠ k → valM (m.map fun p => if p.1 = k then (p.1, a) else p) j = none
  | [], _, _ => rfl
  | (q, b) :: m, h, hne => by
    by_cases c : q = j
    · simp [valM, c] at h
    · have hm : valM m j = none := by simpa [valM, c] using h
      have ih := valM_put' (a := a) hm hne
      rw [List.map_cons]
      by_cases d : q = k
      · rw [if_pos d]
        simpa [valM, c] using ih
      · rw [if_neg d]
        simpa [valM, c] using ih
theorem map_none {k : κ} {a : α} : ∀ {m : Dc κ α}, valM m k = none → (m.map fun p => if p.1 = k then (p.1, a) else p) = m
  | [], _ => rfl
  | (q, b) :: m, h => by
    by_cases c : q = k
    · simp [valM, c] at h
    · have hm : valM m k = none := by simpa [valM, c] using h
      rw [List.map_cons, if_neg c, map_none hm]
theorem valM_app {k j : κ} {a : α} : ∀ {m : Dc κ α}, valM m j = none → j ≠ k → valM (m ++ [(k, a)]) j = none
  | [], _, hne => by
    have : ¬ k = j := fun e => hne e.symm
    simp [valM, this]
  | (q, b) :: m, h, hne => by
    by_cases c : q = j
    · simp [valM, c] at h
    · have hm : valM m j = none := by simpa [valM, c] using h
      have ih := valM_app (a := a) hm hne
      rw [List.cons_append]
      simpa [valM, c] using ih
/-- a new entry -/
theorem EM.snoc {es : List (Ent κ)} {m : Dc κ (List α)} (h : EM K Ho es m) {k : κ} (hn : valM m k = none) (q : Addr) : EM K Ho (es ++ [(DKey.key k, q, [])]) (m ++ [(k, [])]) := by
  induction h with
  | nil => exact .cons rfl .nil rfl .nil
  | @cons e es k1 xs m hk d h0 h ih =>
    have c : k1 ≠ k := fun c => by simp [valM, c] at hn
    have hm : valM m k = none := by simpa [valM, c] using hn
    exact .cons hk d (valM_app h0 c) (ih hm)
/-- all lists stand for good from now on -/
theorem EM.fr {es : List (Ent κ)} {m : Dc κ (List α)} (h : EM K Ho es m) : ∀ {R : Grp}, Zs (rowsE es ++ R) H Ho → ∃ Ho', Same Ho Ho' ∧ Zs R H Ho' ∧ DL K Ho' ((kvsE es).map (·.2)) (m.map (·.2)) := by
  induction h with
  | nil => exact fun z => ⟨Ho, Same.refl _, z, .nil⟩
  | @cons e es k xs m hk d hn h ih =>
    intro R z
    have z1 : Zs ((e.2.1, HO.lst e.2.2) :: (rowsE es ++ R)) H Ho := z
    have z2 : Zs (rowsE es ++ ((e.2.1, HO.lst e.2.2) :: R)) H Ho := z1.perm List.perm_middle.symm
    obtain ⟨Ho1, s1, z3, d1⟩ := ih z2
    obtain ⟨Ho2, s2, z4, d2⟩ := OL.fr (R := R) (OL.mk (p := e.2.1) (DL.mo d s1)) z3
    exact ⟨Ho2, s1.trans s2, z4, .cons d2 (DL.mo d1 s2)⟩
/-- the entry of a key -/
theorem EM.val {es : List (Ent κ)} {m : Dc κ (List α)} (h : EM K Ho es m) (k : κ) : (valM m k = none ∧ @valV _ DKey.dec (kvsE es) (DKey.key k) = none) ∨
    ∃ (i : Nat) (e : Ent κ) (xs : List α), es[i]? = some e ∧ valM m k = some xs ∧ @valV _ DKey.dec (kvsE es) (DKey.key k) = some (.ref e.2.1) ∧ DL K Ho e.2.2 xs ∧
      ∀ (w : V) (x : α), Z.D K Ho w x → EM K Ho (es.set i (e.1, e.2.1, e.2.2 ++ [w])) (putM m k (xs ++ [x])) := by
  induction h with
  | nil => exact .inl ⟨rfl, rfl⟩
  | @cons e es k1 xs m hk d hn h ih =>
    by_cases c : k1 = k
    · subst c
      refine .inr ⟨0, e, xs, rfl, by simp [valM], ?_, d, fun w x dw => ?_⟩
      · exact @valV_pos _ DKey.dec (e.1, V.ref e.2.1) (kvsE es) (DKey.key k1) hk
      · have hm : putM ((k1, xs) :: m) k1 (xs ++ [x]) = (k1, xs ++ [x]) :: m := by
          unfold putM
          rw [List.any_cons, decide_eq_true rfl, Bool.true_or, if_pos rfl, List.map_cons, if_pos rfl, map_none hn]
        rw [hm]
        exact .cons hk (DL.push d dw) hn h
    · have e1 : ∀ {m : Dc κ (List α)}, valM ((k1, xs) :: m) k = valM m k := by intro m; simp [valM, c]
      have e2 : @valV _ DKey.dec (kvsE (e :: es)) (DKey.key k) = @valV _ DKey.dec (kvsE es) (DKey.key k) := @valV_neg _ DKey.dec (e.1, V.ref e.2.1) (kvsE es) (DKey.key k) (fun z => c (DKey.inj (hk.symm.trans z)))
      rcases ih with ⟨a, b⟩ | ⟨i, e', ys, g1, g2, g3, g4, g5⟩
      · exact .inl ⟨e1.trans a, e2.trans b⟩
      · refine .inr ⟨i + 1, e', ys, g1, e1.trans g2, e2.trans g3, g4, fun w x dw => ?_⟩
        have hm : putM ((k1, xs) :: m) k (ys ++ [x]) = (k1, xs) :: putM m k (ys ++ [x]) := by
          have ha : (m.any fun p => decide (p.1 = k)) = true := by rw [valM_any, g2]; rfl
          unfold putM
          rw [List.any_cons, ha, Bool.or_true, if_pos rfl, if_pos rfl, List.map_cons, if_neg c]
        rw [hm]
        refine .cons hk d ?_ (g5 w x dw)
        have ha : (m.any fun p => decide (p.1 = k)) = true := by rw [valM_any, g2]; rfl
        unfold putM
        rw [if_pos ha]
        exact valM_put' hn c
/-- a dict of its own, its values lists of its own -/
def OT (K : PySem.W.Frag) (Ho : Hp) (v : V) (m : Dc κ (List α)) (g : Grp) : Prop := ∃ p es, v = .ref p ∧ EM K Ho es m ∧ g = (p, DKey.ho (κ := κ) (kvsE es)) :: rowsE es
theorem OT.mo {m : Dc κ (List α)} {g : Grp} (h : OT K Ho v m g) (e : Same Ho Ho') : OT K Ho' v m g := by
  obtain ⟨p, es, rfl, d, rfl⟩ := h
  exact ⟨p, es, rfl, d.mo e, rfl⟩
theorem EM.keys {es : List (Ent κ)} {m : Dc κ (List α)} (h : EM K Ho es m) : (kvsE es).map (·.1) = m.map fun p => DKey.key p.1 := by
  induction h with
  | nil => rfl
  | cons hk _ _ _ ih => unfold kvsE at ih ⊢; rw [List.map_cons, List.map_cons, List.map_cons, ih, hk]
/-- its lists stand for good from now on -/
theorem OT.fr {m : Dc κ (List α)} {g : Grp} (h : OT K Ho v m g) (z : Zs (g ++ R) H Ho) : ∃ Ho' g', Same Ho Ho' ∧ Zs (g' ++ R) H Ho' ∧ OD K Ho' v m g' := by
  obtain ⟨p, es, rfl, d, rfl⟩ := h
  have z1 : Zs ((p, DKey.ho (κ := κ) (kvsE es)) :: (rowsE es ++ R)) H Ho := z
  obtain ⟨Ho', s, z2, dl⟩ := d.fr (z1.perm List.perm_middle.symm)
  exact ⟨Ho', [(p, DKey.ho (κ := κ) (kvsE es))], s, z2, p, kvsE es, rfl, ⟨d.keys, dl⟩, rfl⟩
/-- where the list of a key stands -/
def OTat (K : PySem.W.Frag) (Ho : Hp) (v : V) (m : Dc κ (List α)) (k : κ) (u : V) (g : Grp) : Prop := ∃ p es, v = .ref p ∧ EM K Ho es m ∧ g = (p, DKey.ho (κ := κ) (kvsE es)) :: rowsE es ∧ @valV _ DKey.dec (kvsE es) (DKey.key k) = some u
theorem OTat.mo {m : Dc κ (List α)} {k : κ} {g : Grp} (h : OTat K Ho v m k u g) (e : Same Ho Ho') : OTat K Ho' v m k u g := by
  obtain ⟨p, es, rfl, d, rfl, hv⟩ := h
  exact ⟨p, es, rfl, d.mo e, rfl, hv⟩
theorem EM.at {es : List (Ent κ)} {m : Dc κ (List α)} {p : Addr} {k : κ} (h : EM K Ho es m) (hs : (valM m k).isSome = true) : ∃ e : Ent κ, @valV _ DKey.dec (kvsE es) (DKey.key k) = some (.ref e.2.1) ∧ OTat K Ho (.ref p) m k (.ref e.2.1) ((p, DKey.ho (κ := κ) (kvsE es)) :: rowsE es) := by
  rcases h.val k with ⟨a, _⟩ | ⟨i, e, xs, g1, g2, g3, g4, g5⟩
  · rw [a] at hs; cases hs
  · exact ⟨e, g3, p, es, rfl, h, rfl, g3⟩
theorem row_at {es : List (Ent κ)} {i : Nat} {e : Ent κ} {p : Addr} (g1 : es[i]? = some e) : (((p, DKey.ho (κ := κ) (kvsE es)) :: rowsE es) ++ R)[i + 1]? = some (e.2.1, HO.lst e.2.2) := by
  have hi := (List.getElem?_eq_some_iff.mp g1).1
  show (rowsE es ++ R)[i]? = _
  rw [List.getElem?_append_left (by unfold rowsE; rw [List.length_map]; exact hi)]
  unfold rowsE
  rw [List.getElem?_map, g1]
  rfl
theorem g_tyAt {P : Prop} {m : Dc κ (List α)} {k : κ} {g : Grp} (z : Zs (g ++ R) H Ho) (o : OTat K Ho v m k u g) (kk : P) : tyV K "list" u H ∧ P := by
  obtain ⟨p, es, rfl, h, rfl, hv⟩ := o
  rcases h.val k with ⟨_, c⟩ | ⟨i, e, xs, g1, g2, g3, g4, g5⟩
  · rw [c] at hv; cases hv
  · have : u = .ref e.2.1 := Option.some.inj (hv.symm.trans g3)
    subst this
    exact ⟨.inl ⟨rfl, _, SqL.of (z.rt _ (List.mem_of_getElem? (row_at g1))).1⟩, kk⟩
theorem g_isdT {m : Dc κ (List α)} {g : Grp} {P : Addr → Prop} (z : Zs (g ++ R) H Ho) (o : OT K Ho v m g) (kk : ∀ a, v = .ref a → P a) : ∃ a, v = .ref a ∧ IsD H a ∧ P a := by
  obtain ⟨p, es, rfl, h, rfl⟩ := o
  exact ⟨p, rfl, DKey.isd (z.rt _ List.mem_cons_self).1, kk p rfl⟩
theorem g_appAt {m : Dc κ (List α)} {k : κ} {x : α} {g : Grp} (z : Zs (g ++ R) H Ho) (o : OTat K Ho v m k u g) (dx : Z.D K Ho w x) (hl : ∀ xs, valM m k = some xs → xs.length < sizeLine) (kk : ∀ m' g' H', (∀ xs, valM m k = some xs → m' = putM m k (xs ++ [x])) → Zs (g' ++ R) H' Ho → OT K Ho v m' g' → Q .non H') : rAppend u [w] H Q := by
  obtain ⟨p, es, rfl, h, rfl, hv⟩ := o
  rcases h.val k with ⟨_, c⟩ | ⟨i, e, xs, g1, g2, g3, g4, g5⟩
  · rw [c] at hv; cases hv
  have hu : u = .ref e.2.1 := Option.some.inj (hv.symm.trans g3)
  subst hu
  have hr : (((p, DKey.ho (κ := κ) (kvsE es)) :: rowsE es) ++ R)[i + 1]? = some (e.2.1, HO.lst e.2.2) := by
    have hi := (List.getElem?_eq_some_iff.mp g1).1
    show (rowsE es ++ R)[i]? = _
    rw [List.getElem?_append_left (by unfold rowsE; rw [List.length_map]; exact hi)]
    unfold rowsE
    rw [List.getElem?_map, g1]
    rfl
  refine ⟨e.2.1, e.2.2, w, rfl, rfl, (z.rt _ (List.mem_of_getElem? hr)).1, by rw [DL.len g4]; exact hl xs g2, ?_⟩
  have z2 := z.putI (o' := HO.lst (e.2.2 ++ [w])) hr
  refine kk (putM m k (xs ++ [x])) (((p, DKey.ho (κ := κ) (kvsE (es.set i (e.1, e.2.1, e.2.2 ++ [w]))))) :: rowsE (es.set i (e.1, e.2.1, e.2.2 ++ [w]))) _ (fun ys hy => by rw [g2] at hy; cases hy; rfl) ?_ ⟨p, _, rfl, g5 w x dx, rfl⟩
  have e1 : kvsE (es.set i (e.1, e.2.1, e.2.2 ++ [w])) = kvsE es := by
    unfold kvsE
    rw [List.map_set]
    apply List.ext_getElem?
    intro j
    rw [List.getElem?_set]
    split
    · rename_i c
      subst c
      split
      · rw [List.getElem?_map, g1]; rfl
      · rename_i c
        rw [List.getElem?_eq_none (by omega)]
    · rfl
  have e2 : rowsE (es.set i (e.1, e.2.1, e.2.2 ++ [w])) = (rowsE es).set i (e.2.1, HO.lst (e.2.2 ++ [w])) := by
    unfold rowsE
    rw [List.map_set]
  rw [e1, e2]
  have hi := (List.getElem?_eq_some_iff.mp g1).1
  have e3 : (((p, DKey.ho (κ := κ) (kvsE es)) :: rowsE es) ++ R).set (i + 1) (e.2.1, HO.lst (e.2.2 ++ [w])) = ((p, DKey.ho (κ := κ) (kvsE es)) :: (rowsE es).set i (e.2.1, HO.lst (e.2.2 ++ [w]))) ++ R := by
    show _ :: (rowsE es ++ R).set i _ = _ :: ((rowsE es).set i _ ++ R)
    rw [List.set_append_left _ _ (by unfold rowsE; rw [List.length_map]; exact hi)]
  rw [← e3]
  exact z2
/-- d.setdefault(k, []) -/
def setd (m : Dc κ (List α)) (k : κ) : Dc κ (List α) := if (valM m k).isSome = true then m else m ++ [(k, [])]
theorem valM_new {k : κ} {a : List α} : ∀ {m : Dc κ (List α)}, valM m k = none → valM (m ++ [(k, a)]) k = some a
  | [], _ => by simp [valM]
  | (q, b) :: m, h => by
    by_cases c : q = k
    · simp [valM, c] at h
    · have hm : valM m k = none := by simpa [valM, c] using h
      have ih := valM_new (a := a) hm
      rw [List.cons_append]
      simpa [valM, c] using ih
theorem dkT {k : Int × Int} (d : Z.D K Ho w k) : ∃ b, w = .ref b ∧ Ho b = some (.tup ((DKey.key k : List L2.Key).map kV)) := by
  cases d with
  | tup hs ha =>
    cases ha with
    | cons h1 h2 =>
      cases h2 with
      | cons h3 h4 =>
        cases h4
        rw [d_int h1, d_int h3] at hs
        exact ⟨_, rfl, hs⟩
end
section
variable {K : PySem.W.Frag} {H Ho : Hp} {α : Type} [Py α] {R : Grp} {v w : V} {Q : VK}
def GSetd (Q : VK) (a : Addr) (y z : V) (H : Hp) : Prop := ∃ kvs k b, H a = some (.dT kvs) ∧ y = .ref b ∧ H b = some (.tup (k.map kV)) ∧ kvs.length < sizeLine ∧
  (∀ u, valV kvs k = some u → Q u H) ∧ (valV kvs k = none → Q z (upd H a (.dT (putK kvs k z))))
theorem g_setd {m : Dc (Int × Int) (List α)} {k : Int × Int} {g : Grp} {a q : Addr} (ea : v = .ref a) (z : Zs ([(q, HO.lst [])] ++ (g ++ R)) H Ho) (o : OT K Ho v m g) (dk : Z.D K Ho w k) (hl : m.length < sizeLine)
    (kk : ∀ u g' H', Zs (g' ++ R) H' Ho → OTat K Ho v (setd m k) k u g' → Q u H') : GSetd Q a w (.ref q) H := by
  obtain ⟨p, es, e1, h, rfl⟩ := o
  rw [ea] at e1
  cases e1
  subst ea
  obtain ⟨b, rfl, hb⟩ := dkT dk
  have z0 : Zs ((q, HO.lst []) :: (a, HO.dT (kvsE es)) :: (rowsE es ++ R)) H Ho := z
  refine ⟨kvsE es, DKey.key k, b, (z0.rt _ (List.mem_cons_of_mem _ List.mem_cons_self)).1, rfl, z.le _ _ hb, ?_, fun u hu => ?_, fun hn => ?_⟩
  · unfold kvsE; rw [List.length_map, h.len]; exact hl
  · have hs : (valM m k).isSome = true := by
      rcases h.val k with ⟨_, c⟩ | ⟨i, e, xs, _, c, _⟩
      · have : (none : Option V) = some u := c.symm.trans hu
        cases this
      · rw [c]; rfl
    have es' : setd m k = m := if_pos hs
    obtain ⟨e, he, ha⟩ := EM.at (p := a) h hs
    have hue : u = .ref e.2.1 := Option.some.inj (hu.symm.trans he)
    rw [hue]
    exact kk _ _ _ (Zs.tail z0) (by rw [es']; exact ha)
  · have hs : valM m k = none := by
      rcases h.val k with ⟨c, _⟩ | ⟨i, e, xs, _, _, c, _⟩
      · exact c
      · have : (some (V.ref e.2.1) : Option V) = none := c.symm.trans hn
        cases this
    have es' : setd m k = m ++ [(k, [])] := if_neg (by rw [hs]; exact Bool.false_ne_true)
    have h' := h.snoc hs q
    have hp : putK (κ := List L2.Key) (kvsE es) (DKey.key k : List L2.Key) (.ref q) = kvsE (es ++ [((DKey.key k : List L2.Key), q, [])]) := by
      rw [putK_new _ hn]
      unfold kvsE
      rw [List.map_append]
      rfl
    rw [hp]
    obtain ⟨e, he, ha⟩ := EM.at (p := a) (k := k) h' (by rw [valM_new hs]; rfl)
    have z1 : Zs ((a, HO.dT (kvsE es)) :: ((rowsE es ++ [(q, HO.lst [])]) ++ R)) H Ho := z0.perm (by
      refine (List.Perm.swap _ _ _).trans (List.Perm.cons _ ?_)
      rw [List.append_assoc]
      exact List.perm_middle.symm)
    have z2 := z1.put (o' := HO.dT (kvsE (es ++ [((DKey.key k : List L2.Key), q, [])])))
    have hr : rowsE (es ++ [((DKey.key k : List L2.Key), q, [])]) = rowsE es ++ [(q, HO.lst [])] := by unfold rowsE; rw [List.map_append]; rfl
    have hq : e.2.1 = q := by
      have hv : valV (κ := List L2.Key) (kvsE (es ++ [((DKey.key k : List L2.Key), q, [])])) (DKey.key k : List L2.Key) = some (.ref q) := by
        rw [← hp, valV_put, if_pos rfl]
      have := Option.some.inj (he.symm.trans hv)
      cases this; rfl
    rw [hq] at ha
    refine kk _ _ _ ?_ (by rw [es']; exact ha)
    rw [hr]
    exact z2
variable {td ty tx : TE} {σ : L2.St} {γ : Type} {Φ : γ → Prop}
theorem y_dsetd (k : td σ H fun x H1 => ∃ a, x = .ref a ∧ IsD H1 a ∧ ty σ H1 fun y H2 => tx σ H2 fun z H3 => GSetd Q a y z H3) : tDSetd td ty tx σ H Q := k
theorem g_dnewTo (z : Zs R H Ho) (k : ∀ H' v g, Zs (g ++ R) H' Ho → OT K Ho v ([] : Dc (Int × Int) (List α)) g → Q v H') : tDNewT σ H Q := fun p hp => k _ _ _ (z.root hp) ⟨p, [], rfl, .nil, rfl⟩
theorem t_o {G : V → Prop} {e : Dc (Int × Int) (List α)} {g : Grp} {f : Dc (Int × Int) (List α) → W γ} (hw : (W.bind (W.ret e) f).run Φ) (z : Zs (g ++ R) H Ho) (o : OT K Ho v e g) (k : ∀ x v g, Zs (g ++ R) H Ho → OT K Ho v x g → (f x).run Φ → G v) : LetV G v := k e v g z o hw
/-- d.setdefault(k, []).append(x) -/
def sdApp {κ : Type} [DecidableEq κ] (m : Dc κ (List α)) (k : κ) (x : α) : W (Dc κ (List α)) := W.guard (m.length < sizeLine ∧ ((valM m k).getD []).length < sizeLine) (W.ret (putM (setd m k) k ((valM m k).getD [] ++ [x])))
end
end Z

/-! # what is one's own is lent for a call; `is` of bools; count; isinstance of any value -/
namespace Z
open PySem PySem.Spec PyProof.Rows L2
section
variable {K : PySem.W.Frag} {H Ho H' Ho' : Hp} {κ α γ : Type} [Py κ] [DecidableEq κ] [DKey κ] [Py α] {Φ : γ → Prop} {R : Grp} {v w u : V} {Q : VK} {σ : L2.St}
theorem l_lend {P : Prop} {xs : List α} {g : Grp} (o : OL K Ho v xs g) (z : Zs (g ++ R) H Ho) (k : ∀ Ho', Same Ho Ho' → Zs R H Ho' → Z.D K Ho' v xs → (∀ H2 Ho2, Same Ho' Ho2 → Zs R H2 Ho2 → Zs (g ++ R) H2 Ho) → P) : P := by
  obtain ⟨p, vs, rfl, d, rfl⟩ := o
  have z0 : Zs ((p, HO.lst vs) :: R) H Ho := z
  have hs : Same Ho (upd Ho p (.lst vs)) := Same.new z0.headN
  refine k (upd Ho p (.lst vs)) hs z0.freeze (.lst (SqL.of upd_same) (DL.mo d hs)) (fun H2 Ho2 s z2 => ?_)
  have hp : Ho2 p = some (.lst vs) := s _ _ upd_same
  refine ⟨fun b x e => z2.le _ _ (s _ _ (hs _ _ e)), fun r hr => ?_, z0.nd, z0.nt⟩
  rcases List.mem_cons.mp hr with e | hr
  · subst e
    exact ⟨z2.le _ _ hp, z0.headN⟩
  · exact ⟨(z2.rt r hr).1, (z0.rt r (List.mem_cons_of_mem _ hr)).2⟩
theorem p_again {P : Prop} {rs : Grp} (z : Zs rs H Ho) (k : ∀ Ho', Same Ho Ho' → Zs rs H Ho' → P) : P := k Ho (Same.refl _) z
theorem t_fr {P : Prop} {m : Dc κ (List α)} {g : Grp} (o : OT K Ho v m g) (z : Zs (g ++ R) H Ho) (k : ∀ Ho' g', Same Ho Ho' → Zs (g' ++ R) H Ho' → OD K Ho' v m g' → P) : P := by
  obtain ⟨Ho', g', s, z', o'⟩ := o.fr z
  exact k Ho' g' s z' o'
theorem valM_setd {m : Dc κ (List α)} {k : κ} : valM (setd m k) k = some ((valM m k).getD []) := by
  unfold setd
  cases h : valM m k with
  | none => rw [if_neg (by simp)]; exact valM_new h
  | some xs => rw [if_pos (by simp), h]; rfl
theorem sd_h1 {m : Dc κ (List α)} {k : κ} {x : α} {f : Dc κ (List α) → W γ} (hw : (W.bind (sdApp m k x) f).run Φ) : m.length < sizeLine := hw.1.1
theorem sd_h2 {m : Dc κ (List α)} {k : κ} {x : α} {f : Dc κ (List α) → W γ} (hw : (W.bind (sdApp m k x) f).run Φ) (xs : List α) (h : valM (setd m k) k = some xs) : xs.length < sizeLine := by
  rw [valM_setd] at h
  cases h
  exact hw.1.2
theorem sd_run {m m' : Dc κ (List α)} {k : κ} {x : α} {g : Grp} {f : Dc κ (List α) → W γ} (hw : (W.bind (sdApp m k x) f).run Φ) (hm : ∀ xs, valM (setd m k) k = some xs → m' = putM (setd m k) k (xs ++ [x])) (o : OT K Ho v m' g) : ∃ q, OT K Ho v q g ∧ (f q).run Φ := by
  rw [hm _ valM_setd] at o
  exact ⟨_, o, hw.2⟩
end
section
variable {X : Cx}
theorem bl_beq (a b : Bool) : (Value.bool a == Value.bool b) = decide (a = b) := by
  by_cases e : a = b
  · subst e
    exact (beq_self_eq_true (Value.bool a)).trans (decide_eq_true (p := a = a) rfl).symm
  · exact (beq_eq_false_iff_ne.mpr fun z => e (Value.bool.inj z)).trans (decide_eq_false e).symm
def rIsB : R2 := fun x y H Q => ∃ a b, x = .bl a ∧ y = .bl b ∧ Q (.bl (decide (a = b))) H
def rNotB : R2 := fun x y H Q => ∃ a b, x = .bl a ∧ y = .bl b ∧ Q (.bl (!decide (a = b))) H
theorem op_isB : OpR X (compareOp .Is) rIsB := by
  intro pins s σ H x y v u Q I rx ry h
  obtain ⟨a, b, rfl, rfl, q⟩ := h
  cases (show v = Value.bool a from rx)
  cases (show u = Value.bool b from ry)
  exact wpAny_is_plain rfl (fin_bl I q (bl_beq a b).symm)
theorem op_notB : OpR X (compareOp .IsNot) rNotB := by
  intro pins s σ H x y v u Q I rx ry h
  obtain ⟨a, b, rfl, rfl, q⟩ := h
  cases (show v = Value.bool a from rx)
  cases (show u = Value.bool b from ry)
  exact wpAny_isNot_plain rfl (fin_bl I q (congrArg not (bl_beq a b).symm))
end
section
variable {K : PySem.W.Frag} {H Ho : Hp} {R : Grp} {v w : V} {Q : VK} {α : Type} [Py α]
theorem y_isB {a b : Bool} (k : Q (.bl (decide (a = b))) H) : rIsB (.bl a) (.bl b) H Q := ⟨a, b, rfl, rfl, k⟩
theorem y_notB {a b : Bool} (k : Q (.bl (!decide (a = b))) H) : rNotB (.bl a) (.bl b) H Q := ⟨a, b, rfl, rfl, k⟩
theorem zmt_cnt {X : Cx} (hK : X.K = K) : MtR X "list.count" (rCntI K) := hK ▸ mt_lcount
def cntZ (xs : List Int) (k : Int) : Int := ((xs.count k : Nat) : Int)
theorem y_cnt {xs : List Int} {k : Int} (d : LV K R Ho v xs) (z : Zs R H Ho) (kk : Q (.int (cntZ xs k)) H) : rCntI K v [.int k] H Q := by
  obtain ⟨p, vs, rfl, d, s⟩ := d.rd z
  rw [dl_ints d] at s
  exact ⟨p, xs, k, rfl, rfl, s, kk⟩
def pyK : PyData → String
  | .none => "NoneType" | .bool _ => "bool" | .int _ => "int" | .str _ => "str" | .list _ => "list" | .tuple _ => "tuple" | .dict _ => "dict"
def isP (x : PyData) (T : String) : Bool := (kitB (pyK x) T).getD false
/-- no instance -/
def okP (y : PyData) : Prop := ∀ l, y ≠ .dict l
theorem y_isiP {x : α} {T : String} (d : Z.D K H v x) (hg : okP (toPy x)) (h : (["NoneType", "bool", "int", "str", "list", "tuple", "dict"].all fun k => (kitB k T).isSome) = true) (k : Q (.bl (isP (toPy x) T)) H) : rIsi K [v, .ty T] H Q := by
  have hs : (kitB (pyK (toPy x)) T).isSome = true := by
    refine (List.all_eq_true.mp h) _ ?_
    cases toPy x <;> simp [pyK]
  obtain ⟨b, hb⟩ := Option.isSome_iff_exists.mp hs
  have e : isP (toPy x) T = b := by unfold isP; rw [hb]; rfl
  rw [e] at k
  refine ⟨v, .ty T, _, .type T, b, rfl, .ty T, ?_, kit_ty hb, k⟩
  have d : Dq K H v (toPy x) := d
  generalize toPy x = y at d hg
  cases d with
  | ins _ _ _ => exact absurd rfl (hg _)
  | non => exact .base .non
  | bl b => exact .base (.bl _)
  | int i => exact .base (.int _)
  | str s => exact .base (.str _)
  | lst hs _ => exact tyx_list hs
  | tup hs _ => exact tyx_tup (SqT.of hs)
end
/-! methods inside a comprehension: the written part is named outside -/
section
variable {X : Cx} {K : PySem.W.Frag} {o e : Expr} {es : List Expr} {to : TE} {t : TA} {name : Str} {apos cpos : Pos} {T id : String} {r : V → List V → Hp → VK → Prop}
theorem zpe_bm (hK : X.K = K) (pa : PlainAttrs T) (slot : Slot T name id) (hty : typeOf (.builtin id) = pure (.type "method_descriptor")) (hm : MtR X id r) (ho : PE X o to) (ha : PA X (e :: es) t)
    (hbase : attributeBase o name X.env (eval o X.env) = eval o X.env := by rfl)
    (hfew : ((backTo cpos (starEach (e :: es) X.env)).all (fun x => !x.1) && (backToKw cpos (keywordEach [] X.env)).all (fun x => x.1.isSome)
      && decide ((e :: es).length + ([] : List Keyword).length + (if ([] : List Keyword).isEmpty then 0 else 1) < 30)) = true := by rfl)
    (hline : (apos.endLine == cpos.line) = true := by rfl) (hs : starEach (e :: es) X.env = (false, eval e X.env) :: starEach es X.env := by rfl) (hplain : (backTo cpos (starEach es X.env)).any (·.1) = false := by rfl) :
    PE X (.Call (.Attribute o name apos) (e :: es) [] cpos) (tBM K T r to t) := hK ▸ pe_bm pa slot hty hm ho ha hbase hfew hline hs hplain
theorem zpe_bm0 (hK : X.K = K) (pa : PlainAttrs T) (slot : Slot T name id) (hty : typeOf (.builtin id) = pure (.type "method_descriptor")) (hm : MtR X id r) (ho : PE X o to)
    (hbase : attributeBase o name X.env (eval o X.env) = eval o X.env := by rfl) (hline : (apos.endLine == cpos.line) = true := by rfl) : PE X (.Call (.Attribute o name apos) [] [] cpos) (tBM0 K T r to) := hK ▸ pe_bm0 pa slot hty hm ho hbase hline
end
end Z

/-! # texts -/
namespace Z
open PySem PySem.Spec PyProof.Rows L2
section
variable {K : PySem.W.Frag} {H Ho : Hp} {R : Grp} {v w : V} {Q : VK} {σ : L2.St} {te to : TE} {X : Cx}
def strI (i : Int) : Str := toString i
def CStr (i : Int) : Prop := i.natAbs.log2 < 1920
def rCatStr : R2 := fun x y H Q => ∃ i j, x = .str i ∧ y = .str j ∧ i.length + j.length ≤ sizeLine ∧ Q (.str (i ++ j)) H
theorem zop_catStr : OpR X (binaryOp .Add) rCatStr := op_add_str
theorem y_catStr {a b : Str} (hg : a.length + b.length ≤ sizeLine) (k : Q (.str (a ++ b)) H) : rCatStr (.str a) (.str b) H Q := ⟨a, b, rfl, rfl, hg, k⟩
def rStrI : List V → Hp → VK → Prop := fun xs H Q => ∃ i, xs = [.int i] ∧ i.natAbs.log2 < 1920 ∧ Q (.str (toString i)) H
theorem zstrI : CallR X (.type "str") rStrI := call_str_int
theorem y_strI {i : Int} (hg : CStr i) (k : Q (.str (strI i)) H) : rStrI [.int i] H Q := ⟨i, rfl, hg, k⟩
theorem dl_strs {vs : List V} : ∀ {xs : List Str}, DL K H vs xs → vs = xs.map V.str := by
  induction vs with
  | nil => intro xs h; cases xs with | nil => rfl | cons x xs => cases h
  | cons v vs ih =>
    intro xs h
    cases xs with
    | nil => cases h
    | cons x xs => cases h with | cons h1 h2 => rw [ih h2, d_str h1]; rfl
def rJoin (K : PySem.W.Frag) : V → List V → Hp → VK → Prop := fun x xs H Q => ∃ a p, ∃ ys : List Str, x = .str a ∧ xs = [.ref p] ∧ (SqL K H p (ys.map V.str) ∨ SqT K H p (ys.map V.str)) ∧ (ys.map (·.length)).sum + ys.length * a.length ≤ 16777216 ∧ Q (.str (Txt.join a ys)) H
theorem zmt_join (hK : X.K = K) : MtR X "str.join" (rJoin K) := hK ▸ mt_join
def JoinG (a : Str) (ys : List Str) : Prop := (ys.map (·.length)).sum + ys.length * a.length ≤ 16777216
theorem y_sjoin {a : Str} {ys : List Str} (d : LV K R Ho w ys) (z : Zs R H Ho) (hg : JoinG a ys) (k : Q (.str (Txt.join a ys)) H) : rJoin K (.str a) [w] H Q := by
  obtain ⟨p, vs, rfl, d, s⟩ := d.rd z
  rw [dl_strs d] at s
  exact ⟨a, p, ys, rfl, rfl, .inl s, hg, k⟩
def StrR (r : V → List V → Hp → VK → Prop) (te : TE) (σ : L2.St) (Q : VK) (x : V) (H1 : Hp) : Prop := (∃ a, x = .str a) ∧ te σ H1 fun y H2 => r x [y] H2 Q
theorem y_tm1 {r : V → List V → Hp → VK → Prop} (k : to σ H fun x H1 => StrR r te σ Q x H1) : tM1 r to te σ H Q := k
theorem y_tm1s {r : V → List V → Hp → VK → Prop} {a : Str} (k : te σ H fun y H2 => r (.str a) [y] H2 Q) : StrR r te σ Q (.str a) H := ⟨⟨a, rfl⟩, k⟩
/-! f-strings -/
def tFs (ts : List TE) : TE := fun σ H Q => tJs ts Str.empty σ H fun out H1 => Q (.str out) H1
theorem zpe_fs {v1 v2 : Expr} {rest : List Expr} {ts : List TE} {pos : Pos} (h : PJ X (v1 :: v2 :: rest) ts) : PE X (.JoinedStr (v1 :: v2 :: rest) pos) (tFs ts) := pe_joined h
def JsC (ts : List TE) (acc : Str) (σ : L2.St) (QJ : Str → Hp → Prop) (x : V) (H1 : Hp) : Prop := ∃ y : Str, x = .str y ∧ (acc ++ y).length ≤ sizeLine ∧ tJs ts (acc ++ y) σ H1 QJ
theorem y_fs {ts : List TE} (k : tJs ts Str.empty σ H fun out H1 => Q (.str out) H1) : tFs ts σ H Q := k
theorem y_jsC {t : TE} {ts : List TE} {acc : Str} {QJ : Str → Hp → Prop} (k : t σ H fun x H1 => JsC ts acc σ QJ x H1) : tJs (t :: ts) acc σ H QJ := k
theorem y_jsS {ts : List TE} {acc y : Str} {QJ : Str → Hp → Prop} (hg : (acc ++ y).length ≤ sizeLine) (k : tJs ts (acc ++ y) σ H QJ) : JsC ts acc σ QJ (.str y) H := ⟨y, rfl, hg, k⟩
theorem y_jsN {acc : Str} (k : Q (.str acc) H) : tJs [] acc σ H fun out H1 => Q (.str out) H1 := k
def FmtK (Q : VK) (x : V) (H1 : Hp) : Prop := (∃ y : Str, x = .str y ∧ y.length ≤ sizeLine ∧ Q (.str y) H1) ∨ ∃ i : Int, x = .int i ∧ i.natAbs.log2 < 1920 ∧ Q (.str (toString i)) H1
theorem y_fmt (k : te σ H fun x H1 => FmtK Q x H1) : tFmt te σ H Q := k
theorem y_fmtI {i : Int} (hg : CStr i) (k : Q (.str (strI i)) H) : FmtK Q (.int i) H := .inr ⟨i, rfl, hg, k⟩
theorem y_fmtS {y : Str} (hg : y.length ≤ sizeLine) (k : Q (.str y) H) : FmtK Q (.str y) H := .inl ⟨y, rfl, hg, k⟩
end
end Z

/-! # a tuple of two lists of one's own -/
namespace Z
open PySem L2
section
variable {K : PySem.W.Frag} {H Ho H' Ho' : Hp} {α β γ : Type} [Py α] [Py β] {Φ : γ → Prop} {R g0 g1 g : Grp} {v w u v0 v1 : V} {Q : VK} {σ : L2.St} {xs : List α} {ys : List β} {x : List α × List β}
def TupAt (Ho : Hp) (v v0 v1 : V) : Prop := ∃ p, v = .ref p ∧ Ho p = some (.tup [v0, v1])
theorem TupAt.mo (h : TupAt Ho v v0 v1) (e : Same Ho Ho') : TupAt Ho' v v0 v1 := by
  obtain ⟨p, rfl, hp⟩ := h
  exact ⟨p, rfl, e _ _ hp⟩
def OP (K : PySem.W.Frag) (Ho : Hp) (v : V) (x : List α × List β) (g : Grp) : Prop := ∃ v0 v1 g0 g1, TupAt Ho v v0 v1 ∧ OL K Ho v0 x.1 g0 ∧ OL K Ho v1 x.2 g1 ∧ g = g0 ++ g1
theorem OP.mo (h : OP K Ho v x g) (e : Same Ho Ho') : OP K Ho' v x g := by
  obtain ⟨v0, v1, g0, g1, t, o0, o1, rfl⟩ := h
  exact ⟨v0, v1, g0, g1, t.mo e, o0.mo e, o1.mo e, rfl⟩
theorem p_open {P : Prop} (o : OP K Ho v x g) (z : Zs (g ++ R) H Ho) (k : ∀ v0 v1 g0 g1, TupAt Ho v v0 v1 → OL K Ho v0 x.1 g0 → OL K Ho v1 x.2 g1 → Zs (g0 ++ (g1 ++ R)) H Ho → P) : P := by
  obtain ⟨v0, v1, g0, g1, t, o0, o1, rfl⟩ := o
  rw [List.append_assoc] at z
  exact k v0 v1 g0 g1 t o0 o1 z
theorem p_close {P : Prop} (t : TupAt Ho v v0 v1) (o0 : OL K Ho v0 xs g0) (o1 : OL K Ho v1 ys g1) (z : Zs (g0 ++ (g1 ++ R)) H Ho) (k : ∀ g, OP K Ho v (xs, ys) g → Zs (g ++ R) H Ho → P) : P :=
  k (g0 ++ g1) ⟨v0, v1, g0, g1, t, o0, o1, rfl⟩ (by rw [List.append_assoc]; exact z)
theorem p_reopen {P : Prop} (t : TupAt Ho v v0 v1) (o : OP K Ho v x g) (z : Zs (g ++ R) H Ho) (k : ∀ g0 g1, OL K Ho v0 x.1 g0 → OL K Ho v1 x.2 g1 → Zs (g0 ++ (g1 ++ R)) H Ho → P) : P := by
  obtain ⟨w0, w1, g0, g1, t2, o0, o1, rfl⟩ := o
  rw [List.append_assoc] at z
  obtain ⟨p, rfl, hp⟩ := t
  obtain ⟨q, hq, hq2⟩ := t2
  cases hq
  rw [hp] at hq2
  cases hq2
  exact k g0 g1 o0 o1 z
theorem p_fr {P : Prop} (o : OP K Ho v x g) (z : Zs (g ++ R) H Ho) (k : ∀ Ho', Same Ho Ho' → Zs R H Ho' → Z.D K Ho' v x → P) : P := by
  obtain ⟨w0, w1, g0, g1, t, o0, o1, rfl⟩ := o
  rw [List.append_assoc] at z
  obtain ⟨Ho1, e1, z1, d0⟩ := OL.fr o0 z
  obtain ⟨Ho2, e2, z2, d1⟩ := OL.fr (o1.mo e1) z1
  refine k Ho2 (e1.trans e2) z2 ?_
  obtain ⟨p, rfl, hp⟩ := t
  exact .tup (e2 _ _ (e1 _ _ hp)) (.cons (D.mo d0 e2) (.cons d1 .nil))
theorem p_tupk (z : Zs R H Ho) (k : ∀ p H' Ho', Same Ho Ho' → Zs R H' Ho' → TupAt Ho' (.ref p) v0 v1 → Q (.ref p) H') : TupK Q [v0, v1] H :=
  ⟨by show 2 ≤ sizeLine; decide, fun p hp => k p _ _ (Same.new (z.free hp)) (z.alloc hp) ⟨p, rfl, upd_same⟩⟩
theorem TupAt.d (t : TupAt Ho v v0 v1) (d0 : Z.D K Ho v0 xs) (d1 : Z.D K Ho v1 ys) : Z.D K Ho v (xs, ys) := by
  obtain ⟨p, rfl, hp⟩ := t
  exact .tup hp (.cons d0 (.cons d1 .nil))
theorem TupAt.rd (t : TupAt Ho v v0 v1) (l0 : LV K R Ho v0 xs) (l1 : LV K R Ho v1 ys) (z : Zs R H Ho) : Z.D K H v (xs, ys) := by
  obtain ⟨p, rfl, hp⟩ := t
  exact .tup (z.le _ _ hp) (.cons (l0.dp z) (.cons (l1.dp z) .nil))
theorem p_ix0 (t : TupAt Ho v v0 v1) (z : Zs R H Ho) (k : Q v0 H) : rIxT K v (.int 0) H Q := by
  obtain ⟨p, rfl, hp⟩ := t
  exact ⟨p, [v0, v1], 0, v0, rfl, rfl, SqT.of (z.le _ _ hp), rfl, k⟩
theorem p_ix1 (t : TupAt Ho v v0 v1) (z : Zs R H Ho) (k : Q v1 H) : rIxT K v (.int 1) H Q := by
  obtain ⟨p, rfl, hp⟩ := t
  exact ⟨p, [v0, v1], 1, v1, rfl, rfl, SqT.of (z.le _ _ hp), rfl, k⟩
theorem p_len (t : TupAt Ho v v0 v1) (z : Zs R H Ho) (k : Q (.int 2) H) : rLenZ K [v] H Q := by
  obtain ⟨p, rfl, hp⟩ := t
  exact ⟨p, [v0, v1], rfl, .inr (SqT.of (z.le _ _ hp)), k⟩
theorem p_gt2 {i j : Nat} {QS : L2.St → Hp → Prop} (σ' : V → V → L2.St) (hσ : ∀ v u, (σ.set i (some v)).set j (some u) = σ' v u) (t : TupAt Ho v v0 v1) (z : Zs R H Ho) (k : QS (σ' v0 v1) H) : gTup K 2 (gCons (gName i) (gCons (gName j) gNil)) v σ H QS := by
  obtain ⟨p, rfl, hp⟩ := t
  exact ⟨_, _, rfl, SqT.of (z.le _ _ hp), rfl, _, _, rfl, _, _, rfl, rfl, by rw [hσ]; exact k⟩
theorem p_o {G : V → Prop} {e : List α × List β} {f : List α × List β → W γ} (hw : (W.bind (W.ret e) f).run Φ) (z : Zs (g ++ R) H Ho) (o : OP K Ho v e g) (k : ∀ x v g, Zs (g ++ R) H Ho → OP K Ho v x g → (f x).run Φ → G v) : LetV G v := k e v g z o hw
theorem g_rep {n : Int} (z : Zs (g ++ R) H Ho) (o : OL K Ho v xs g) (hg : repG xs n) (k : ∀ H' p ws, Zs ([(p, .lst ws)] ++ (g ++ R)) H' Ho → DL K Ho ws (repL xs n) → Q (.ref p) H') : rRep v (.int n) H Q := by
  obtain ⟨p, vs, rfl, d, rfl⟩ := o
  exact ⟨p, n, vs, rfl, rfl, z.head, hg.1, hg.2.1, by rw [DL.len d]; exact hg.2.2, fun q hq => k _ q _ (z.root hq) (rep_dl d _)⟩
theorem zpe_revL {X : Cx} {e : Expr} {te : TE} {k : Nat} {p1 p2 p3 pos : Pos} (hK : X.K = K) (he : PE X e te) : PE X (.Subscript e (.Slice none none (some (.UnaryOp .USub (.Constant (.int 1) k p1) p2)) p3) pos) (tRevL K te) := hK ▸ pe_revL he
def RevK (K : PySem.W.Frag) (Q : VK) (x : V) (H1 : Hp) : Prop := ∃ a xs, x = .ref a ∧ SqL K H1 a xs ∧ ∀ p, H1 p = none → Q (.ref p) (upd H1 p (.lst xs.reverse))
theorem y_revL {te : TE} (k : te σ H fun x H1 => RevK K Q x H1) : tRevL K te σ H Q := k
theorem y_rev1 (d : LV K R Ho v xs) (z : Zs R H Ho) (k : ∀ H' p ws, Zs ((p, .lst ws) :: R) H' Ho → DL K Ho ws xs.reverse → Q (.ref p) H') : RevK K Q v H := by
  obtain ⟨p, vs, rfl, d, s⟩ := d.rd z
  refine ⟨p, vs, rfl, s, fun q hq => k _ q _ (z.root hq) ?_⟩
  show DqAll _ _ _ (xs.reverse.map Py.toPy)
  rw [List.map_reverse]
  exact dpAll_rev d
end
/-! dicts whose keys are four ints -/
instance : DKey (P4 Int Int Int Int) where
  kt := List L2.Key
  dec := inferInstance
  key p := [.inl p.a, .inl p.b, .inl p.c, .inl p.d]
  inj h := by
    rename_i x y
    obtain ⟨a1, a2, a3, a4⟩ := x
    obtain ⟨b1, b2, b3, b4⟩ := y
    simp only [List.cons.injEq, Sum.inl.injEq, and_true] at h
    rw [h.1, h.2.1, h.2.2.1, h.2.2.2]
  ho := .dT
  get e s d := by
    cases d with
    | tup hs ha =>
      cases ha with
      | cons h1 ha => cases ha with
        | cons h2 ha => cases ha with
          | cons h3 ha => cases ha with
            | cons h4 ha =>
              cases ha
              rw [d_int h1, d_int h2, d_int h3, d_int h4] at hs
              exact DGet.t e (s _ _ hs)
  put e s d h := by
    cases d with
    | tup hs ha =>
      cases ha with
      | cons h1 ha => cases ha with
        | cons h2 ha => cases ha with
          | cons h3 ha => cases ha with
            | cons h4 ha =>
              cases ha
              rw [d_int h1, d_int h2, d_int h3, d_int h4] at hs
              exact DPut.t e (s _ _ hs) h
  isd e := .inr ⟨_, .inl e⟩
section
variable {K : PySem.W.Frag} {H Ho : Hp} {α : Type} [Py α] {R : Grp} {Q : VK} {σ : L2.St}
theorem g_dnewT4 (z : Zs R H Ho) (k : ∀ H' v g, Zs (g ++ R) H' Ho → OD K Ho v ([] : Dc (P4 Int Int Int Int) α) g → Q v H') : tDNewT σ H Q := fun p hp => k _ _ _ (z.root hp) ⟨p, [], rfl, ⟨rfl, .nil⟩, rfl⟩
end
end Z

/-! # texts, sign by sign; split, int -/
namespace Z
open PySem PySem.Spec PyProof.Rows L2
section
variable {K : PySem.W.Frag} {H Ho : Hp} {R : Grp} {v w : V} {Q : VK} {σ : L2.St} {te to : TE} {X : Cx} {γ : Type} {Φ : γ → Prop}
def chS (z : Str) : List Str := z.cps.toList.map fun c => (⟨#[c]⟩ : Str)
theorem trn_str {z : Str} : Trn K [] (Its z) (chS z) Ho := by
  intro i rs' H' Ho' e zz sub
  refine ⟨fun x hx => ?_, fun hl => ?_⟩
  · unfold chS at hx
    rw [List.getElem?_map, Option.map_eq_some_iff] at hx
    obtain ⟨c, hc, rfl⟩ := hx
    have hi : i < z.cps.size := by
      have := (List.getElem?_eq_some_iff.mp hc).1
      rwa [Array.length_toList] at this
    refine ⟨hi, fun y H'' yy => ?_⟩
    obtain ⟨rfl, d, hd, rfl⟩ := yy
    have : d = c := by
      rw [Array.getElem?_toList] at hc
      exact Option.some.inj (hd.symm.trans hc)
    subst this
    exact ⟨Ho', Same.refl _, fun _ z => z, .str _⟩
  · unfold chS at hl
    rw [List.length_map, Array.length_toList] at hl
    exact hl
def SrcS (R : It → Hp → Prop) (x : V) (H : Hp) : Prop := ∃ z, x = .str z ∧ R (Its z) H
theorem k_iStr {R : It → Hp → Prop} (k : te σ H fun x H1 => SrcS R x H1) : iStr te σ H R := k
theorem k_srcS {R : It → Hp → Prop} {z : Str} (k : ∀ J, Trn K [] J (chS z) Ho → R J H) : SrcS R (.str z) H := ⟨z, rfl, k _ trn_str⟩
def hasS (j i : Str) : Bool := !(Builtin.Str.occurrences j i 0 j.length 1).isEmpty
def rInStr : R2 := fun x y H Q => ∃ i j, x = .str i ∧ y = .str j ∧ Q (.bl (!(Builtin.Str.occurrences j i 0 j.length 1).isEmpty)) H
def rNotinStr : R2 := fun x y H Q => ∃ i j, x = .str i ∧ y = .str j ∧ Q (.bl (!(!(Builtin.Str.occurrences j i 0 j.length 1).isEmpty))) H
theorem zop_inStr : OpR X (compareOp .In) rInStr := op_in_str
theorem zop_notinStr : OpR X (compareOp .NotIn) rNotinStr := op_notin_str
theorem y_inStr {i j : Str} (k : Q (.bl (hasS j i)) H) : rInStr (.str i) (.str j) H Q := ⟨i, j, rfl, rfl, k⟩
theorem y_notinStr {i j : Str} (k : Q (.bl (!hasS j i)) H) : rNotinStr (.str i) (.str j) H Q := ⟨i, j, rfl, rfl, k⟩
/-- the sign at a place -/
def chr (z : Str) (i : Int) : W Str := W.guard (z.length ≤ sizeLine) (W.bind (W.opt (atI z.cps.toList i)) fun c => W.ret (⟨#[c]⟩ : Str))
theorem y_ixStr {z : Str} {i : Int} {f : Str → W γ} (hw : (W.bind (chr z i) f).run Φ) (k : ∀ t, (f t).run Φ → Q (.str t) H) : rIxS (.str z) (.int i) H Q := by
  obtain ⟨hl, c, hc, hw⟩ := hw
  exact ⟨z, i, c, rfl, rfl, hl, hc, k _ hw⟩
def rLenS : List V → Hp → VK → Prop := fun xs H Q => ∃ y : Str, xs = [.str y] ∧ y.length ≤ sizeLine ∧ Q (.int (y.length : Nat)) H
theorem zlenS : CallR X (.builtin "len") rLenS := by
  intro pins s σ H xs us Q I r h
  obtain ⟨y, e, hl, q⟩ := h
  exact call_len pins s σ H xs us Q I r ⟨.str y, y.length, e, ⟨hl, rfl⟩, q⟩
theorem y_lenStr {y : Str} (hg : y.length ≤ sizeLine) (k : Q (.int (y.length : Int)) H) : rLenS [.str y] H Q := ⟨y, rfl, hg, k⟩
def rSplit : V → List V → Hp → VK → Prop := fun x xs H Q => ∃ a b, x = .str a ∧ xs = [.str b] ∧ (b.length == 0) = false ∧ a.length + 2 ≤ sizeLine ∧ rNewStrs (Txt.split a b) H Q
theorem zmt_split : MtR X "str.split" rSplit := mt_split
def SplG (a b : Str) : Prop := (b.length == 0) = false ∧ a.length + 2 ≤ sizeLine
theorem strs_dl : ∀ {xs : List Str}, DL K H (xs.map V.str) xs
  | [] => .nil
  | x :: xs => .cons (.str x) strs_dl
theorem y_split {a b : Str} (z : Zs R H Ho) (hg : SplG a b) (k : ∀ H' p ws, Zs ((p, .lst ws) :: R) H' Ho → DL K Ho ws (Txt.split a b) → Q (.ref p) H') : rSplit (.str a) [.str b] H Q :=
  ⟨a, b, rfl, rfl, hg.1, hg.2, fun p hp => k _ p _ (z.root hp) strs_dl⟩
def rIntS : List V → Hp → VK → Prop := fun xs H Q => ∃ a n, xs = [.str a] ∧ PySem.intText? a = some n ∧ a.length ≤ 640 ∧ Q (.int n) H
theorem zintS : CallR X (.type "int") rIntS := call_int_str
/-- int(text) -/
def intS (a : Str) : W Int := W.guard (a.length ≤ 640) (W.opt (PySem.intText? a))
theorem y_intS {a : Str} {f : Int → W γ} (hw : (W.bind (intS a) f).run Φ) (k : ∀ t, (f t).run Φ → Q (.int t) H) : rIntS [.str a] H Q := by
  obtain ⟨hl, n, hn, hw⟩ := hw
  exact ⟨a, n, rfl, hn, hl, k _ hw⟩
end
end Z

/-! # a list of two is taken apart -/
namespace Z
open PySem PySem.Spec PyProof.Rows L2
section
variable {α γ : Type} [Py α] {K : PySem.W.Frag} {rs : List (Addr × HO)} {H Ho : Hp} {σ : L2.St} {Φ : γ → Prop}
def two {α : Type} : List α → Option (α × α)
  | [a, b] => some (a, b)
  | _ => none
theorem two_some {xs : List α} {p : α × α} (h : two xs = some p) : xs = [p.1, p.2] := by
  match xs, h with
  | [a, b], h => cases h; rfl
theorem zpg_unl {X : Cx} {es : List Expr} {k : Nat} {t : TGs} {n : Nat} {pos : Pos} (hK : X.K = K) (hc : X.calm = true) (h : PGs X es t)
    (hn : (assignEach es X.env).length = n := by rfl) (hst : (assignEach es X.env).findIdx? (·.1) = none := by rfl) : PG X (.Tuple es k pos) (gUnl K n t) := hK ▸ pg_unl hc h hn hst
theorem c_unl2 {i j : Nat} {x : V} {QS : L2.St → Hp → Prop} {xs : List α} {f : α × α → W γ} (hw : (W.bind (W.opt (two xs)) f).run Φ) (σ' : V → V → L2.St) (hσ : ∀ v u, (σ.set i (some v)).set j (some u) = σ' v u) (d : LV K rs Ho x xs) (z : Zs rs H Ho)
    (k : ∀ a b v u, D K Ho v a → D K Ho u b → (f (a, b)).run Φ → QS (σ' v u) H) : gUnl K 2 (gCons (gName i) (gCons (gName j) gNil)) x σ H QS := by
  obtain ⟨p, e, hf⟩ := hw
  have ex := two_some e
  subst ex
  obtain ⟨q, vs, rfl, d, s⟩ := LV.rd d z
  cases d with
  | cons h1 h2 =>
    cases h2 with
    | cons h2 h3 =>
      cases h3
      exact ⟨_, _, rfl, s, rfl, _, _, rfl, _, _, rfl, rfl, by rw [hσ]; exact k _ _ _ _ h1 h2 hf⟩
end
end Z

/-! # data of any kind: items, lengths, kinds -/
namespace Z
open PySem PySem.Spec PyProof.Rows L2
theorem IxR.or {X : Cx} {r r' : R2} (h : IxR X r) (h' : IxR X r') : IxR X (fun x y H Q => r x y H Q ∨ r' x y H Q) := by
  intro value slice pins s σ H x y v u Q I rx ry q hs
  rcases q with q | q
  · exact h _ _ _ _ _ _ _ _ _ _ _ I rx ry q hs
  · exact h' _ _ _ _ _ _ _ _ _ _ _ I rx ry q hs
section
variable {α β γ : Type} [Py α] {K : PySem.W.Frag} {rs : List (Addr × HO)} {H Ho : Hp} {σ : L2.St} {Φ : γ → Prop} {Q : VK} {v : V}
def rIxA (K : PySem.W.Frag) : R2 := fun x y H Q => rIxL K x y H Q ∨ rIxT K x y H Q
theorem zix_any {X : Cx} (hK : X.K = K) : IxR X (rIxA K) := (zix_list hK).or (zix_tup hK)
/-- the item of a list or a tuple -/
def pyIx : PyData → Int → Option PyData
  | .list xs, i => atI xs i
  | .tuple xs, i => atI xs i
  | _, _ => none
def pyLen : PyData → Option Int
  | .list xs => some (xs.length : Int)
  | .tuple xs => some (xs.length : Int)
  | _ => none
theorem atI_dqG {H : Hp} {vs : List V} {ds : List PyData} {i : Int} {d : PyData} (h : DqAll K H vs ds) (e : atI ds i = some d) : ∃ v, atI vs i = some v ∧ Dq K H v d := by
  unfold atI at e ⊢
  have hl := dpAll_len h
  rw [hl]
  cases q : ixN ds.length i with
  | none => rw [q] at e; cases e
  | some j =>
    rw [q] at e
    exact dpAll_get h e
theorem y_ixP {x : PyData} {i : Int} {f : PyData → W γ} (d : D K Ho v x) (z : Zs rs H Ho) (hw : (W.bind (W.opt (pyIx x i)) f).run Φ) (k : ∀ t w, D K Ho w t → (f t).run Φ → Q w H) : rIxA K v (.int i) H Q := by
  obtain ⟨a, ea, hw⟩ := hw
  have d : Dq K Ho v x := d
  cases d with
  | lst hs ha =>
    obtain ⟨w, ew, dw⟩ := atI_dqG ha ea
    exact .inl ⟨_, _, i, w, rfl, rfl, z.le.seq hs, ew, k a w dw hw⟩
  | tup hs ha =>
    obtain ⟨w, ew, dw⟩ := atI_dqG ha ea
    exact .inr ⟨_, _, i, w, rfl, rfl, SqT.of (z.le _ _ hs), ew, k a w dw hw⟩
  | non => cases ea
  | bl _ => cases ea
  | int _ => cases ea
  | str _ => cases ea
  | ins _ _ _ => cases ea
theorem y_lenP {x : PyData} {f : Int → W γ} (d : D K Ho v x) (z : Zs rs H Ho) (hw : (W.bind (W.opt (pyLen x)) f).run Φ) (k : ∀ t, (f t).run Φ → Q (.int t) H) : rLenZ K [v] H Q := by
  obtain ⟨a, ea, hw⟩ := hw
  have d : Dq K Ho v x := d
  cases d with
  | lst hs ha =>
    cases ea
    refine ⟨_, _, rfl, .inl (z.le.seq hs), ?_⟩
    rw [dpAll_len ha]
    exact k _ hw
  | tup hs ha =>
    cases ea
    refine ⟨_, _, rfl, .inr (SqT.of (z.le _ _ hs)), ?_⟩
    rw [dpAll_len ha]
    exact k _ hw
  | non => cases ea
  | bl _ => cases ea
  | int _ => cases ea
  | str _ => cases ea
  | ins _ _ _ => cases ea
/-! isinstance(x, (T1, T2)) -/
theorem zisiT {X : Cx} (hK : X.K = K) : CallR X (.builtin "isinstance") (rIsiT K) := hK ▸ call_isiT
def allK : List String := ["NoneType", "bool", "int", "str", "list", "tuple", "dict"]
def IsiK (T : String) : Prop := (allK.all fun k => (kitB k T).isSome) = true
theorem tyx_py {x : PyData} (d : Dq K H v x) (hg : okP x) : TyX K H v (.type (pyK x)) := by
  cases d with
  | ins _ _ _ => exact absurd rfl (hg _)
  | non => exact .base .non
  | bl b => exact .base (.bl _)
  | int i => exact .base (.int _)
  | str s => exact .base (.str _)
  | lst hs _ => exact tyx_list hs
  | tup hs _ => exact tyx_tup (SqT.of hs)
theorem isP_kit {x : PyData} {T : String} (h : IsiK T) : PySem.W.kitOne K (.type (pyK x)) (.type T) = some (isP x T) := by
  have hs : (kitB (pyK x) T).isSome = true := by
    refine (List.all_eq_true.mp h) _ ?_
    cases x <;> simp [pyK, allK]
  obtain ⟨b, hb⟩ := Option.isSome_iff_exists.mp hs
  have e : isP x T = b := by unfold isP; rw [hb]; rfl
  rw [e]
  exact kit_ty hb
theorem y_isPT2 {x : α} {p : Addr} {S T : String} (d : D K H v x) (hg : okP (toPy x)) (hp : H p = some (.tup [.ty S, .ty T])) (h1 : IsiK S) (h2 : IsiK T) (k : Q (.bl (isP (toPy x) S || (isP (toPy x) T || false))) H) : rIsiT K [v, .ref p] H Q :=
  ⟨v, p, _, .type (pyK (toPy x)), [.type S, .type T], _, rfl, hp, .cons (.ty S) (.cons (.ty T) .nil), tyx_py d hg, kitAny_or (isP_kit h1) (kitAny_or (isP_kit h2) kitAny_nil), k⟩
/-! data of a kind that is wanted -/
class Fr (α : Type) [Py α] where
  fr : PyData → Option α
  ok : ∀ d a, fr d = some a → d = toPy a
instance : Fr Int := ⟨fun d => match d with | .int i => some i | _ => none, fun d a h => by cases d <;> first | (cases h; rfl) | (cases h)⟩
instance : Fr Str := ⟨fun d => match d with | .str i => some i | _ => none, fun d a h => by cases d <;> first | (cases h; rfl) | (cases h)⟩
instance : Fr Bool := ⟨fun d => match d with | .bool i => some i | _ => none, fun d a h => by cases d <;> first | (cases h; rfl) | (cases h)⟩
def frAll (β : Type) [Py β] [Fr β] : List PyData → Option (List β)
  | [] => some []
  | d :: ds => match (Fr.fr d : Option β), frAll β ds with
    | some a, some as => some (a :: as)
    | _, _ => none
theorem frAll_ok {β : Type} [Py β] [Fr β] : ∀ {ds : List PyData} {as : List β}, frAll β ds = some as → ds = as.map Py.toPy
  | [], as, h => by cases h; rfl
  | d :: ds, as, h => by
    unfold frAll at h
    split at h
    · rename_i a as' e1 e2
      cases h
      rw [List.map_cons, ← frAll_ok e2, Fr.ok d a e1]
    · cases h
instance {β : Type} [Py β] [Fr β] : Fr (List β) := ⟨fun d => match d with | .list xs => frAll β xs | _ => none, fun d a h => by
  cases d <;> first | (cases h; done) | skip
  rename_i xs
  show PyData.list xs = .list (a.map Py.toPy)
  rw [frAll_ok (show frAll β xs = some a from h)]⟩
instance {β β' : Type} [Py β] [Fr β] [Py β'] [Fr β'] : Fr (β × β') := ⟨fun d => match d with
  | .tuple [x, y] => match (Fr.fr x : Option β), (Fr.fr y : Option β') with
    | some a, some b => some (a, b)
    | _, _ => none
  | _ => none, fun d p h => by
  split at h
  · rename_i x y
    split at h
    · rename_i a b e1 e2
      cases h
      rw [Fr.ok _ _ e1, Fr.ok _ _ e2]; rfl
    · cases h
  · cases h⟩
instance {β β' β'' : Type} [Py β] [Fr β] [Py β'] [Fr β'] [Py β''] [Fr β''] : Fr (P3 β β' β'') := ⟨fun d => match d with
  | .tuple [x, y, z] => match (Fr.fr x : Option β), (Fr.fr y : Option β'), (Fr.fr z : Option β'') with
    | some a, some b, some c => some ⟨a, b, c⟩
    | _, _, _ => none
  | _ => none, fun d p h => by
  split at h
  · rename_i x y z
    split at h
    · rename_i a b c e1 e2 e3
      cases h
      rw [Fr.ok _ _ e1, Fr.ok _ _ e2, Fr.ok _ _ e3]; rfl
    · cases h
  · cases h⟩
instance {β β' β'' γ' : Type} [Py β] [Fr β] [Py β'] [Fr β'] [Py β''] [Fr β''] [Py γ'] [Fr γ'] : Fr (P4 β β' β'' γ') := ⟨fun d => match d with
  | .tuple [x, y, z, u] => match (Fr.fr x : Option β), (Fr.fr y : Option β'), (Fr.fr z : Option β''), (Fr.fr u : Option γ') with
    | some a, some b, some c, some e => some ⟨a, b, c, e⟩
    | _, _, _, _ => none
  | _ => none, fun d p h => by
  split at h
  · rename_i x y z u
    split at h
    · rename_i a b c e e1 e2 e3 e4
      cases h
      rw [Fr.ok _ _ e1, Fr.ok _ _ e2, Fr.ok _ _ e3, Fr.ok _ _ e4]; rfl
    · cases h
  · cases h⟩
theorem y_fr {β : Type} [Py β] [Fr β] {x : PyData} {P : Prop} {f : β → W γ} (d : D K Ho v x) (hw : (W.bind (W.opt (Fr.fr x : Option β)) f).run Φ) (k : ∀ t, D K Ho v t → (f t).run Φ → P) : P := by
  obtain ⟨a, ea, hw⟩ := hw
  refine k a ?_ hw
  have e := Fr.ok x a ea
  show Dq K Ho v (toPy a)
  rw [← e]
  exact d
end
/-! xs.extend(ys), ys as it stands -/
theorem list_extendW (l : Addr) (items : Array Value) (n : Nat) (b : Addr) (items2 : Array Value) (n2 : Nat) (dd2 : Option Addr) (sl2 : Array (Option Value)) (hc0 : ¬(!items.isEmpty && Builtin.List.listTooLong (items.size + items2.size)) = true) (hc1 : items.size ≤ sizeLine) (hs2 : items.size + items2.size ≤ sizeLine + 1 := by seq_fits) :
    Meets (Builtin.«list.extend» ⟨[.ref l, .ref b], []⟩) (fun _ R s => s.heap.get? l = some { cls := .type "list", dict := none, data := .seq items n, slots := #[] } ∧ s.heap.get? b = some { cls := .type "list", dict := dd2, data := .seq items2 n2, slots := sl2 } ∧ R (.ok (.ret Value.none)) { s with heap := s.heap.update l (Obj.mapSeq fun x => x ++ items2), toks := s.toks }) :=
  .of_wp fun prog w A R s h => by
    obtain ⟨hp, g, d, tk, os⟩ := s; obtain ⟨hl, hb, h⟩ := h; have f1 := AutoSeq1.idx_int; have f2 := AutoSeq1.sub_tuple_tuple; have f3 := AutoSeq1.sub_list_list; have f4 := AutoSeq1.sub_tuple_list; have f5 := AutoSeq1.sub_list_tuple;
    have hz' : (items ++ items2).size ≤ sizeLine + 1 := by rw [Array.size_append]; exact hs2
    wp_walk using (wpAny_updateSeq hl rfl (hz := hc1) (_hz' := hz')), AutoSeq1.wpAny_loadPart' hl, AutoSeq1.wpAny_loadPart' hb; exact ⟨_, rfl, h⟩
def rExtendS (K : PySem.W.Frag) : V → List V → Hp → VK → Prop := fun x vs H Q => ∃ l b xs zs, x = .ref l ∧ vs = [.ref b] ∧ H l = some (.lst xs) ∧ SqL K H b zs ∧ xs.length + zs.length ≤ sizeLine ∧ Q .non (upd H l (.lst (xs ++ zs)))
theorem mt_extendS {X : Cx} : MtM X "list.extend" (rExtendS X.K) := by
  intro pins s σ H x vs v us Q I rx rv h
  obtain ⟨l, b, xs, zs, rfl, rfl, hH, hB, hz, q⟩ := h
  cases rx
  obtain ⟨u, rfl, ru⟩ := rv.one
  cases ru
  obtain ⟨z, its, n, r, hl, e⟩ := I.lstM hH
  obtain ⟨its2, r2, pl2, _⟩ := I.list hB
  have hl2 := r2.length
  obtain ⟨⟨cls2, dd2, data2, sl2⟩, ho2, hc2, n2, hd2⟩ := pl2.isList
  simp only at hc2 hd2
  subst hc2 hd2
  have hsz : its.toArray.size + its2.toArray.size ≤ sizeLine := by rw [List.size_toArray, List.size_toArray]; omega
  have hlong : ¬ (!its.toArray.isEmpty && Builtin.List.listTooLong (its.toArray.size + its2.toArray.size)) = true := by
    rw [notLongL hsz, Bool.and_false]
    exact Bool.false_ne_true
  refine call_meets F.slot_list_extend ⟨_, e, rfl⟩ F.entry_list_extend (F.args_list_extend_2 _ _)
    (list_extendW l its.toArray n b its2.toArray n2 dd2 sl2 hlong (by rw [List.size_toArray]; omega) (by omega)) ⟨e, ho2, ?_⟩
  refine ⟨.non, _, I.lset (its' := its ++ its2) hH e (by simp) (r.append r2) ?_, rfl, q⟩
  rw [List.length_append]
  omega
theorem zmt_extendS {X : Cx} {K : PySem.W.Frag} (hK : X.K = K) : MtM X "list.extend" (rExtendS K) := hK ▸ mt_extendS
section
variable {α γ : Type} [Py α] {K : PySem.W.Frag} {R : Grp} {H Ho : Hp} {Φ : γ → Prop} {Q : VK} {v w : V}
theorem g_extD {xs ys : List α} {g : Grp} {f : List α → W γ} (z : Zs (g ++ R) H Ho) (o : OL K Ho v xs g) (o2 : LV K (g ++ R) Ho w ys) (hw : (W.bind (exd xs ys) f).run Φ) (k : ∀ xs' g' H', Zs (g' ++ R) H' Ho → OL K Ho v xs' g' → (f xs').run Φ → Q .non H') : rExtendS K v [w] H Q := by
  obtain ⟨p, vs, rfl, d, rfl⟩ := o
  obtain ⟨q, us, rfl, d2, s2⟩ := LV.rd o2 z
  exact ⟨p, q, vs, us, rfl, rfl, z.head, s2, by rw [DL.len d, DL.len d2]; exact hw.1, k _ _ _ z.put ⟨p, _, rfl, d.append d2, rfl⟩ hw.2⟩
end
end Z

/-! # objects: their fields, their methods, how they are made -/
namespace Z
open PySem PySem.Spec PyProof.Rows L2
/-! fields by their places -/
theorem lk_zip : ∀ {ns : List Str} {vs : List V} {i : Nat} {f : Str} {v : V}, ns.Nodup → ns[i]? = some f → vs[i]? = some v → (ns.zip vs).lookup f = some v
  | [], _, _, _, _, _, h, _ => by cases h
  | _ :: _, [], _, _, _, _, _, h => by cases h
  | n :: ns, w :: vs, 0, f, v, _, h1, h2 => by
    cases h1
    cases h2
    rw [List.zip_cons_cons, List.lookup_cons, beq_self_eq_true]
  | n :: ns, w :: vs, i + 1, f, v, hn, h1, h2 => by
    have hm : f ∈ ns := List.mem_of_getElem? (show ns[i]? = some f from h1)
    have ne : f ≠ n := fun e => (List.nodup_cons.mp hn).1 (e ▸ hm)
    rw [List.zip_cons_cons, List.lookup_cons, beq_eq_false_iff_ne.mpr ne]
    exact lk_zip (List.nodup_cons.mp hn).2 h1 h2
theorem lk_none : ∀ {ns : List Str} {vs : List V} {f : Str}, f ∉ ns → (ns.zip vs).lookup f = none
  | [], _, _, _ => rfl
  | _ :: _, [], _, _ => rfl
  | n :: ns, w :: vs, f, h => by
    have ne : f ≠ n := fun e => h (by rw [e]; exact List.mem_cons_self)
    rw [List.zip_cons_cons, List.lookup_cons, beq_eq_false_iff_ne.mpr ne]
    exact lk_none fun m => h (List.mem_cons_of_mem _ m)
theorem put_zip : ∀ {ns : List Str} {vs : List V} {i : Nat} {f : Str} {v : V}, ns.Nodup → ns[i]? = some f → i < vs.length → putF f v (ns.zip vs) = ns.zip (vs.set i v)
  | [], _, _, _, _, _, h, _ => by cases h
  | _ :: _, [], _, _, _, _, _, h => by simp at h
  | n :: ns, w :: vs, 0, f, v, _, h1, _ => by
    cases h1
    show (if n = n then _ else _) = _
    rw [if_pos rfl]; rfl
  | n :: ns, w :: vs, i + 1, f, v, hn, h1, h2 => by
    have hm : f ∈ ns := List.mem_of_getElem? (show ns[i]? = some f from h1)
    have ne : ¬ n = f := fun e => (List.nodup_cons.mp hn).1 (e ▸ hm)
    show (if n = f then _ else (n, w) :: putF f v (ns.zip vs)) = (n, w) :: ns.zip (vs.set i v)
    rw [if_neg ne, put_zip (List.nodup_cons.mp hn).2 h1 (by simpa using h2)]
theorem put_new : ∀ {ns : List Str} {vs : List V} {f : Str} {v : V}, ns.Nodup → ns[vs.length]? = some f → putF f v (ns.zip vs) = ns.zip (vs ++ [v])
  | [], _, _, _, _, h => by simp at h
  | n :: ns, [], f, v, _, h => by
    cases h
    show [(n, v)] = _
    simp
  | n :: ns, w :: vs, f, v, hn, h => by
    have h : ns[vs.length]? = some f := h
    have hm : f ∈ ns := List.mem_of_getElem? h
    have ne : ¬ n = f := fun e => (List.nodup_cons.mp hn).1 (e ▸ hm)
    show (if n = f then _ else (n, w) :: putF f v (ns.zip vs)) = (n, w) :: ns.zip (vs ++ [v])
    rw [if_neg ne, put_new (List.nodup_cons.mp hn).2 h]
/-- a class of the text -/
structure CF (K : PySem.W.Frag) (q : Addr) (cn : Str) (ns : List Str) : Prop where
  at_ : PySem.W.nsIn K mainGlobals cn = some (some (.ref q))
  cl : Cls K q
  na : ∀ f ∈ ns, NoAttr K q f
  nd : ns.Nodup
  few : ns.length < 1000
theorem CF.eq {K : PySem.W.Frag} {q C : Addr} {cn : Str} {ns : List Str} (c : CF K q cn ns) (h : PySem.W.nsIn K mainGlobals cn = some (some (.ref C))) : q = C := by
  have e := c.at_.symm.trans h
  cases e
  rfl
theorem rowG_app {gs : List Grp} {R : Grp} : rowG gs [] ++ R = rowG gs R := by rw [rowG_eq, rowG_eq, List.append_nil]
def FldK (K : PySem.W.Frag) (Q : VK) (f : Str) (x : V) (H : Hp) : Prop := ∃ a C dx fs v, x = .ref a ∧ H a = some (.ins C dx fs) ∧ Cls K C ∧ NoAttr K C f ∧ fs.lookup f = some v ∧ Q v H
def SFldK (K : PySem.W.Frag) (N : Hp → Prop) (f : Str) (y x : V) (H : Hp) : Prop := ∃ a C dx fs, x = .ref a ∧ H a = some (.ins C dx fs) ∧ Cls K C ∧ NoAttr K C f ∧ fs.length < 1000 ∧ N (upd H a (.ins C dx (putF f y fs)))
def MetK (C : Addr) (m : Str) (G : V → Hp → Prop) (x : V) (H : Hp) : Prop := ∃ a dx fs, x = .ref a ∧ H a = some (.ins C dx fs) ∧ fs.lookup m = none ∧ G x H
def MkK (C : Addr) (G : V → Hp → Prop) (H : Hp) : Prop := ∀ x dx, H x = none → H dx = none → dx ≠ x → G (.ref x) (upd (upd H dx (.own x)) x (.ins C dx []))
def tMethS (C : Addr) (m : Str) (sp : Sp) (E : L2.St → XK) (ta : TE) (t : TA) : TE := fun σ H Q => ta σ H fun x H1 => MetK C m (fun x H1 => t σ H1 fun vs H2 => sp (x :: vs) H2 Q (E σ)) x H1
def tMakeS (C : Addr) (sp : Sp) (E : L2.St → XK) (t : TA) : TE := fun σ H Q => t σ H fun vs H1 => MkK C (fun x H2 => sp (x :: vs) H2 (fun v H3 => v = .non ∧ Q x H3) (E σ)) H1
section
variable {X : Cx} {CX : CXT} {k : Nat} {f C : Addr} {fd : FuncData} {ps : List Str} {sp : Sp} {E : L2.St → XK} {x m : Str} {p pos apos : Pos} {e o : Expr} {es : List Expr} {ta : TE} {t : TA}
theorem passAt0 {σ : L2.St} : PassesAt CX0 X σ (E σ) := fun pins H s e s' I c => pass0 pins σ H s e s' I c
theorem pe_methS' {pl : Sem Bool} (he : PE X o ta) (c : Cls X.K C) (hm : Meth X.K C m f) (F : FnOk X.prog X.w X.K X.mg X.base CX k f fd ps sp) (hr : Room k X.A) (hb : Binds X.K fd ps []) (hx : ∀ σ, PassesAt CX X σ (E σ)) (ha : PA X (e :: es) t)
    (hst : starEach (e :: es) X.env = (false, eval e X.env) :: starEach es X.env := by rfl) (hpl : (backTo pos (starEach es X.env)).any (·.1) = false := by rfl)
    (ht : eval (.Call (.Attribute o m apos) (e :: es) [] pos) X.env = (do
      let ov ← eval o X.env
      standAt apos.atName
      let (f, first) ← holding [ov] (getMethod ov m pl)
      callWith pos f first (backTo pos (starEach (e :: es) X.env)) (backToKw pos (keywordEach [] X.env))) := by rfl) :
    PE X (.Call (.Attribute o m apos) (e :: es) [] pos) (tMethS C m sp E ta t) := by
  refine ⟨fun pins s σ H Q I h => ?_⟩
  refine PySem.W.methodCall_KW (pl := pl) (thn (he.run pins s σ H _ I h) fun u s1 ⟨x, H1, I1, rx, a, dx, fs, ex, ea, l, q⟩ => ?_) ht
  subst ex
  obtain rfl : u = Value.ref a := rx
  refine getmeth_ok I1 ea c hm l ?_
  refine PySem.W.callWith_K (first := [.ref a]) (h₀ := X.base) I.ok.mod.kin hm.kp (thn (ha.run pos pins s1 σ H1 _ I1 q) fun us s2 ⟨vs, H2, I2, r, q2⟩ => ⟨I2.kIn, ?_⟩) hst hpl
  exact run_fnS (us := .ref a :: us) (vs := .ref a :: vs) F hr hb (hx σ) I2 (.cons rfl r) q2
theorem pe_methS0' {pl : Sem Bool} (he : PE X o ta) (c : Cls X.K C) (hm : Meth X.K C m f) (F : FnOk X.prog X.w X.K X.mg X.base CX k f fd ps sp) (hr : Room k X.A) (hb : Binds X.K fd ps []) (hx : ∀ σ, PassesAt CX X σ (E σ))
    (ht : eval (.Call (.Attribute o m apos) [] [] pos) X.env = (do
      let ov ← eval o X.env
      standAt apos.atName
      let (f, first) ← holding [ov] (getMethod ov m pl)
      callWith pos f first (backTo pos (starEach [] X.env)) (backToKw pos (keywordEach [] X.env))) := by rfl) :
    PE X (.Call (.Attribute o m apos) [] [] pos) (tMethS C m sp E ta tNil) := by
  refine ⟨fun pins s σ H Q I h => ?_⟩
  refine PySem.W.methodCall_KW (pl := pl) (thn (he.run pins s σ H _ I h) fun u s1 ⟨x, H1, I1, rx, a, dx, fs, ex, ea, l, q⟩ => ?_) ht
  subst ex
  obtain rfl : u = Value.ref a := rx
  refine getmeth_ok I1 ea c hm l ?_
  exact PySem.W.callWith_K0 (first := [.ref a]) I1.kIn hm.kp (run_fnS (us := [.ref a]) (vs := [.ref a]) F hr hb (hx σ) I1 (.cons rfl .nil) q)
theorem run_makeS {pins : List (Addr × Obj)} {σ : L2.St} {H : Hp} {s : Shared} {Q : VK} {us : List Value} {vs : List V} (M : Mk X.K C f) (F : FnOk X.prog X.w X.K X.mg X.base CX k f fd ps sp) (hr : Room (k + 1) X.A) (hb : Binds X.K fd ps [])
    (hx : PassesAt CX X σ (E σ)) (I : Inv X pins σ H s) (r : Vals vs us) (h : MkK C (fun x H2 => sp (x :: vs) H2 (fun v H3 => v = .non ∧ Q x H3) (E σ)) H) :
    wpAny (model X.prog X.w) X.A (call (.ref C) us) (EP X pins σ Q) X.xe s := by
  have hq := h (s.heap.objs.size + 1) s.heap.objs.size (I.hok.fresh (Nat.le_succ _)) (I.hok.fresh (Nat.le_refl _)) (Nat.ne_of_lt (Nat.lt_succ_self _))
  have I2 := Inv.made (C := C) I
  have r2 : Vals (V.ref (s.heap.objs.size + 1) :: vs) (Value.ref (s.heap.objs.size + 1) :: us) := .cons rfl r
  have hl : (Value.ref (s.heap.objs.size + 1) :: us ++ []).length = ps.length := by
    rw [List.append_nil]
    have e := r2.length
    rw [F.len _ _ _ _ hq] at e
    exact e.symm
  have hb' := hb _ (Value.ref (s.heap.objs.size + 1) :: us) I2.kIn hl
  rw [List.append_nil] at hb'
  refine wpAny_call (make_map (f := f) I.kIn M.makes M.init (beq_iff_eq.mp M.fn) (codeAny_mono (F.run _ X.stack _ _ ⟨Value.ref (s.heap.objs.size + 1) :: us, []⟩ (Value.ref (s.heap.objs.size + 1) :: us) _ _ (E σ) (hr.make C us [])
    (I2.env0.make C us []) hb' r2 hq) fun r s' hq' => ?_))
  cases r with
  | error e => exact hx pins _ _ e s' I2 hq'
  | ok fl =>
    cases fl with
    | ret u =>
      obtain ⟨v, H', I3, rv, ev, q3⟩ := I2.after hq'
      subst ev
      exact ⟨rv, ⟨V.ref (s.heap.objs.size + 1), H', I3, rfl, q3⟩⟩
    | next => exact False.elim hq'
    | brk => exact False.elim hq'
    | cont => exact False.elim hq'
theorem pe_makeS (M : Mk X.K C f) (F : FnOk X.prog X.w X.K X.mg X.base CX k f fd ps sp) (hr : Room (k + 1) X.A) (hg : Gl X x) (hm : X.mg x = some (.ref C)) (hb : Binds X.K fd ps []) (hx : ∀ σ, PassesAt CX X σ (E σ))
    (ha : PA X (e :: es) t) (hdb : (x == ("__debug__" : Str)) = false := by decide) (he : starEach (e :: es) X.env = (false, eval e X.env) :: starEach es X.env := by rfl) (hpl : (backTo pos (starEach es X.env)).any (·.1) = false := by rfl) :
    PE X (.Call (.Name x p) (e :: es) [] pos) (tMakeS C sp E t) := by
  refine ⟨fun pins s σ H Q I h => ?_⟩
  refine wpAny_Call_Name_kw (ld_glob I hg hm ?_ hdb)
  refine PySem.W.callWith_K (h₀ := X.base) I.ok.mod.kin M.kp (thn (ha.run pos pins s σ H _ I h) fun us s1 ⟨vs, H1, I1, r, q⟩ => ⟨I1.kIn, ?_⟩) he hpl
  exact run_makeS M F hr hb (hx σ) I1 r q
theorem pe_makeS0 (M : Mk X.K C f) (F : FnOk X.prog X.w X.K X.mg X.base CX k f fd ps sp) (hr : Room (k + 1) X.A) (hg : Gl X x) (hm : X.mg x = some (.ref C)) (hb : Binds X.K fd ps []) (hx : ∀ σ, PassesAt CX X σ (E σ))
    (hdb : (x == ("__debug__" : Str)) = false := by decide) : PE X (.Call (.Name x p) [] [] pos) (tMakeS C sp E tNil) := by
  refine ⟨fun pins s σ H Q I h => ?_⟩
  refine wpAny_Call_Name_kw (ld_glob I hg hm ?_ hdb)
  exact PySem.W.callWith_K0 I.kIn M.kp (run_makeS (us := []) M F hr hb (hx σ) I .nil h)
theorem zpe_fld {K : PySem.W.Frag} {fl : Str} (hK : X.K = K) (he : PE X e ta) (hb : attributeBase e fl X.env (eval e X.env) = eval e X.env) : PE X (.Attribute e fl pos) (tFld K ta fl) := hK ▸ pe_fld he hb
theorem zps_fld {K : PySem.W.Frag} {fl : Str} {value : Expr} {tv : TE} {pos' : Pos} (hK : X.K = K) (ha : PE X o ta) (hv : PE X value tv) (hs : swapsWith value (some (.Attribute o fl pos')) pos.line X.env = pure false) : PS X (.Assign [.Attribute o fl pos'] value pos) (sFld K ta tv fl) := hK ▸ ps_fld ha hv hs
end
section
variable {K : PySem.W.Frag} {rs R : Grp} {H Ho : Hp} {σ : L2.St} {Q : VK} {QH : Hp → Prop} {v y : V} {a dx q : Addr} {cn f m : Str} {ns : List Str} {vs : List V} {i : Nat} {ta tv : TE} {t : TA} {u : TS} {D : Ends} {C : Addr} {sp : Sp} {E : L2.St → XK} {G : V → Hp → Prop}
theorem y_fld (k : ta σ H fun x H1 => FldK K Q f x H1) : tFld K ta f σ H Q := k
theorem y_sfld (k : tv σ H fun y H1 => LetV (fun y => ta σ H1 fun x H2 => SFldK K (fun H3 => u D σ H3) f y x H2) y) : tSeq (sFld K ta tv f) u D σ H := k
theorem y_meth (k : ta σ H fun x H1 => MetK C m (fun x H1 => t σ H1 fun vs H2 => sp (x :: vs) H2 Q (E σ)) x H1) : tMethS C m sp E ta t σ H Q := k
theorem y_make (k : t σ H fun vs H1 => MkK C (fun x H2 => sp (x :: vs) H2 (fun v H3 => v = .non ∧ Q x H3) (E σ)) H1) : tMakeS C sp E t σ H Q := k
theorem o_fld (c : CF K q cn ns) (hm : ∀ r ∈ ([(a, HO.ins q dx (ns.zip vs))] : Grp), r ∈ rs) (z : Zs rs H Ho) (hn : ns[i]? = some f) (hv : vs[i]? = some v) (k : Q v H) : FldK K Q f (.ref a) H :=
  ⟨a, q, dx, _, v, rfl, (z.rt _ (hm _ List.mem_cons_self)).1, c.cl, c.na f (List.mem_of_getElem? hn), lk_zip c.nd hn hv, k⟩
/-- what an instance that stands for good is as data -/
def pyIns (cn : Str) (ns : List Str) (ds : List PyData) : PyData := .dict [(.str cn, .list (ns.map .str)), (.none, .tuple ds)]
theorem strs_inj : ∀ {ns ms : List Str}, ns.map PyData.str = ms.map PyData.str → ns = ms
  | [], [], _ => rfl
  | [], _ :: _, h => by cases h
  | _ :: _, [], h => by cases h
  | n :: ns, m :: ms, h => by
    rw [List.map_cons, List.map_cons] at h
    injection h with h1 h2
    injection h1 with h1
    rw [h1, strs_inj h2]
theorem dq_ins {d : PyData} {ds : List PyData} (h : Dq K Ho v d) (e : d = pyIns cn ns ds) : ∃ a C dx vs, v = .ref a ∧ PySem.W.nsIn K mainGlobals cn = some (some (.ref C)) ∧ Ho a = some (.ins C dx (ns.zip vs)) ∧ DqAll K Ho vs ds := by
  cases h with
  | @ins a dx C cn' ns' vs ds' hC hs hd =>
    unfold pyIns at e
    injection e with e
    injection e with e1 e2
    injection e1 with e3 e4
    injection e3 with e3
    injection e4 with e4
    injection e2 with e5 _
    injection e5 with _ e6
    injection e6 with e6
    have e7 := strs_inj e4
    subst e3 e7 e6
    exact ⟨a, C, dx, vs, rfl, hC, hs, hd⟩
  | _ => cases e
theorem o_fldD {α β : Type} [Py α] [Py β] {x : α} {w : β} {ds : List PyData} (c : CF K q cn ns) (d : Z.D K Ho v x) (hx : toPy x = pyIns cn ns ds) (z : Zs rs H Ho) (hn : ns[i]? = some f) (hd : ds[i]? = some (toPy w)) (k : ∀ u, Z.D K Ho u w → Q u H) : FldK K Q f v H := by
  obtain ⟨a, C, dx, vs, rfl, hC, hs, ha⟩ := dq_ins d hx
  obtain rfl := c.eq hC
  obtain ⟨u, hu, du⟩ := dpAll_get ha hd
  exact ⟨a, q, dx, _, u, rfl, z.le _ _ hs, c.cl, c.na f (List.mem_of_getElem? hn), lk_zip c.nd hn hu, k u du⟩
theorem len_zip_few {vs : List V} (c : CF K q cn ns) : (ns.zip vs).length < 1000 := by
  rw [List.length_zip]
  have := c.few
  omega
/-- a field gets a value -/
theorem o_sfld (c : CF K q cn ns) (z : Zs ([(a, HO.ins q dx (ns.zip vs))] ++ R) H Ho) (hn : ns[i]? = some f) (hi : i < vs.length) (k : ∀ H', Zs ([(a, HO.ins q dx (ns.zip (vs.set i y)))] ++ R) H' Ho → QH H') : SFldK K QH f y (.ref a) H :=
  ⟨a, q, dx, _, rfl, Zs.head z, c.cl, c.na f (List.mem_of_getElem? hn), len_zip_few c, by
    rw [put_zip c.nd hn hi]
    exact k _ (Zs.put z)⟩
theorem o_nfld (c : CF K q cn ns) (z : Zs ([(a, HO.ins q dx (ns.zip vs))] ++ R) H Ho) (hn : ns[vs.length]? = some f) (k : ∀ H', Zs ([(a, HO.ins q dx (ns.zip (vs ++ [y])))] ++ R) H' Ho → QH H') : SFldK K QH f y (.ref a) H :=
  ⟨a, q, dx, _, rfl, Zs.head z, c.cl, c.na f (List.mem_of_getElem? hn), len_zip_few c, by
    rw [put_new c.nd hn]
    exact k _ (Zs.put z)⟩
theorem o_met (hm : ∀ r ∈ ([(a, HO.ins q dx (ns.zip vs))] : Grp), r ∈ rs) (z : Zs rs H Ho) (hn : m ∉ ns) (k : G (.ref a) H) : MetK q m G (.ref a) H :=
  ⟨a, dx, _, rfl, (z.rt _ (hm _ List.mem_cons_self)).1, lk_none hn, k⟩
theorem o_mk (z : Zs rs H Ho) (k : ∀ a dx H' Ho', Same Ho Ho' → Zs ([(a, HO.ins C dx (ns.zip []))] ++ rs) H' Ho' → G (.ref a) H') : MkK C G H := fun x dx hx hd ne => by
  have e : Same Ho (upd Ho dx (.own x)) := Same.new (z.free hd)
  refine k x dx _ _ e ?_
  have z1 : Zs rs (upd H dx (.own x)) (upd Ho dx (.own x)) := z.alloc hd
  have hx' : (upd H dx (.own x)) x = none := by rw [upd_ne (fun e => ne e.symm)]; exact hx
  have z2 := z1.root (o := HO.ins C dx (ns.zip [])) hx'
  rw [List.zip_nil_right] at z2 ⊢
  exact z2
end
section
variable {β γ : Type} {R : Grp} {H Ho : Hp} {Φ : γ → Prop}
theorem h_nmG {P : β → Prop} {X : Prop} {e : β} {f : β → W γ} (hw : (W.bind (W.ret e) f).run Φ) (o : P e) (k : ∀ x, P x → (f x).run Φ → X) : X := k e o hw
theorem l_oG {P : V → β → Grp → Prop} {G : V → Prop} {v : V} {e : β} {g : Grp} {f : β → W γ} (hw : (W.bind (W.ret e) f).run Φ) (z : Zs (g ++ R) H Ho) (o : P v e g) (k : ∀ x v g, Zs (g ++ R) H Ho → P v x g → (f x).run Φ → G v) : LetV G v := k e v g z o hw
end
/-- a method that stands at f -/
structure MCal (P : Program) (w : World) (K : PySem.W.Frag) (mg : Str → Option Value) (base : Heap) (CX : CXT) (q : Addr) (m : Str) (ps : List Str) (k : Nat) (sp : Sp) (f : Addr) (fd : FuncData) : Prop where
  ok : FnOk P w K mg base CX k f fd ps sp
  me : Meth K q m f
  b : Binds K fd ps []
/-- a class's __init__ -/
structure KCal (P : Program) (w : World) (K : PySem.W.Frag) (mg : Str → Option Value) (base : Heap) (CX : CXT) (q : Addr) (cn : Str) (ps : List Str) (k : Nat) (sp : Sp) (f : Addr) (fd : FuncData) : Prop where
  ok : FnOk P w K mg base CX k f fd ps sp
  mk_ : Mk K q f
  g : mg cn = some (.ref q)
  b : Binds K fd ps []
end Z

/-! # objects whose class has its own len, str, ==; isinstance; a dict's copy -/
namespace NeX
open PySem PySem.Spec PyProof.Rows PySem.SeqAt PySem.W Builtin
section
variable {M : Model} {prog : Program} {w : World} {A : Around} {E : Value → Shared → Prop} {s : Shared} {K : PySem.W.Frag} {x y C f : Addr} {ox oy : Obj} {od od' : Option Obj}
theorem ifBound_objNe {args : List Value} {Q : Option Value → Shared → Prop} (X : K.In s.heap) (I : PySem.W.InstAt s.heap x ox C od) (hs : PySem.W.findIn K (.ref C) "__ne__" = some (some (.builtin "object.__ne__")))
    (h : wpAny M A (call (.builtin "object.__ne__") (.ref x :: args)) (fun v => Q (some v)) E s) : wpAny M A (callSpecialIfBound? (.ref x) "__ne__" args) Q E s := by
  simp only [callSpecialIfBound?, bindSpecialIfBound?]
  refine wpAny_holding (wpAny_bind (wpAny_bind (wpAny_bind (I.type.here ((PySem.W.looks_findIn X hs).here ?_)))))
  refine wpAny_bind (wpAny_askSetting (wpAny_ite ?_))
  have fin : wpAny M A (call (.builtin "object.__ne__") ([.ref x] ++ args) >>= fun v => pure (some v)) Q E s := wpAny_bind (wpAny_mono h (fun v s' h' => wpAny_pure h') fun _ _ h' => h')
  split
  · exact wpAny_bind (wpAny_of_eq (F.cmp_object.ne.bind _) (wpAny_pure (by exact fin)))
  · exact wpAny_tryCatch (wpAny_bind (wpAny_of_eq (F.cmp_object.ne.bind _) (wpAny_pure (by exact fin))))
theorem entry_ne {Q : Fin → Shared → Prop} (hu : A.units < cLine) (X : K.In s.heap) (I : PySem.W.InstAt s.heap x ox C od) (hs : PySem.W.findIn K (.ref C) "__eq__" = some (some (.ref f))) (hf : PySem.W.isFn K (.ref f) = true)
    (hcall : wpAny (model prog w) A (call (.ref f) [.ref x, .ref y]) (fun v s' => ∃ b, v = .bool b ∧ Q (.done (.ret (.bool (!b)))) s') E s) : wpAny (model prog w) A (Builtin.«object.__ne__» ⟨[.ref x, .ref y], []⟩) Q E s := by
  unfold Builtin.«object.__ne__»
  repeat (first
    | with_reducible refine wpAny_cRoomFor hu ?_
    | (refine wpAny_bind (m := callSpecialIfBound? (.ref x) (Str.ofString "__eq__") [.ref y])
        (PySem.W.ifBound_K X I hs hf (wpAny_mono hcall (fun r s' hr => by
          obtain ⟨b, rfl, hq⟩ := hr
          repeat (first | exact hq | exact wpAny_pure hq | exact wpAny_truthy_bool hq | (refine wpAny_bind (m := truthy (.bool _)) (wpAny_truthy_bool ?_)) | wp_step)) fun _ _ e => e)))
    | wp_step)
theorem ne_K {Q : Value → Shared → Prop} (hu : A.units < cLine) (hu1 : A.in1.units < cLine) (X : K.In s.heap) (I : PySem.W.InstAt s.heap x ox C od) (J : PySem.W.InstAt s.heap y oy C od')
    (hne : PySem.W.findIn K (.ref C) "__ne__" = some (some (.builtin "object.__ne__"))) (hm : PySem.W.mroIn K C (.type "object") = some true)
    (hs : PySem.W.findIn K (.ref C) "__eq__" = some (some (.ref f))) (hf : PySem.W.isFn K (.ref f) = true)
    (h : wpAny (model prog w) A.in1 (call (.ref f) [.ref x, .ref y]) (fun v s' => ∃ b, v = .bool b ∧ Q (.bool (!b)) s') E s) : wpAny (model prog w) A (richCompare .NotEq (.ref x) (.ref y)) Q E s := by
  have one : wpAny (model prog w) A (tryCompare (.ref x) "__ne__" (.ref y)) (fun r s' => ∃ b, r = some (.bool b) ∧ Q (.bool b) s') E s := by
    unfold tryCompare
    refine wpAny_bind (ifBound_objNe X I hne (wpAny_call (codeAny_call_builtin F.cmp_object.ne.plain F.cmpEntry_ne (PySem.W.check_slot F.cmpKind_ne F.cmpSplit_ne (I.type.andThen (PySem.W.looks_mroIn X hm)) (F.cmpArgs_ne _ _) (entry_ne hu1 X I hs hf (wpAny_mono h (fun v s' hv => ?_) fun _ _ e => e))))))
    obtain ⟨b, rfl, hq⟩ := hv
    first | exact ⟨b, rfl, wpAny_pure ⟨_, rfl, hq⟩⟩ | exact ⟨b, rfl, wpAny_pure (wpAny_pure ⟨_, rfl, hq⟩)⟩
  unfold richCompare
  simp only [oneThing_ref, cmpInfo_NotEq]
  refine wpAny_holding (wpAny_bind (wpAny_cRoomFor hu ?_))
  refine wpAny_bind (I.type.here (wpAny_bind (J.type.here ?_)))
  split
  · rename_i q
    exact absurd q (by simp)
  · refine wpAny_bind (wpAny_pure ?_)
    simp only [Bool.false_eq_true, if_false]
    refine wpAny_bind (wpAny_mono one (fun r s' z => ?_) fun _ _ e => e)
    obtain ⟨v, rfl, hq⟩ := z
    exact wpAny_pure hq
end
end NeX
namespace Z
open PySem PySem.Spec PyProof.Rows L2
section
variable {X : Cx} {pins : List (Addr × Obj)} {σ : L2.St} {H : Hp} {s : Shared} {C f : Addr} {fd : FuncData} {ps : List Str} {sp : Sp} {k : Nat}
theorem run_atS {A : Around} {E : XK} {Q : VK} {us : List Value} {vs : List V} (F : FnOk X.prog X.w X.K X.mg X.base CX0 k f fd ps sp) (hr : Room k A) (e0 : Env0 X.prog X.w X.K X.mg X.base A X.stack s H) (hb : Binds X.K fd ps []) (I : Inv X pins σ H s) (r : Vals vs us) (h : sp vs H Q E) :
    wpAny (model X.prog X.w) A (call (.ref f) us) (EP X pins σ Q) X.xe s := by
  have hl : us.length = ps.length := by rw [← r.length]; exact F.len _ _ _ _ h
  have b := hb s us I.kIn (by rw [List.append_nil]; exact hl)
  rw [List.append_nil] at b
  refine wpAny_call (codeAny_mono (F.run A X.stack s H ⟨us, []⟩ us vs Q E hr e0 b r h) fun r s' hq => ?_)
  cases r with
  | error e => exact pass0 pins σ H s e s' I hq
  | ok fl =>
    cases fl with
    | ret u => exact I.after hq
    | next => exact False.elim hq
    | brk => exact False.elim hq
    | cont => exact False.elim hq
def rLenO (C : Addr) (sp : Sp) : List V → Hp → VK → Prop := fun xs H Q => ∃ a dx fs, xs = [.ref a] ∧ H a = some (.ins C dx fs) ∧ sp [.ref a] H (fun z H' => ∃ n : Int, z = .int n ∧ 0 ≤ n ∧ n < 2 ^ 63 ∧ Q (.int n) H') E0
theorem call_lenO (hm : Meth X.K C "__len__" f) (F : FnOk X.prog X.w X.K X.mg X.base CX0 k f fd ps sp) (hr : Room (k + 1) X.A) (hb : Binds X.K fd ps []) : CallR X (.builtin "len") (rLenO C sp) := by
  intro pins s σ H xs us Q I r h
  obtain ⟨a, dx, fs, rfl, ha, q⟩ := h
  obtain ⟨u, rfl, ru⟩ := vals1 r
  cases (show u = Value.ref a from ru)
  obtain ⟨mA, J, _⟩ := ins_get I.hok ha
  obtain ⟨od, J, _⟩ := J.look
  obtain ⟨m, hF⟩ := I.fr
  refine PySem.W.len_K hF I.ok.mod.kin J hm.at_ hm.fn (wpAny_mono (run_atS (us := [.ref a]) (vs := [.ref a]) F hr.in1 I.env0.in1 hb I (.cons rfl .nil) q) (fun w s' z => ?_) fun _ _ x => x)
  obtain ⟨z', H', I', rz, n, en, n0, n1, qz⟩ := z
  subst en
  obtain ⟨t, e⟩ := (show ∃ t, w = Value.int n t from rz)
  cases e
  exact ⟨⟨n0, n1⟩, .int n, H', I'.tok _, ⟨_, rfl⟩, qz⟩
def rStrO (C : Addr) (sp : Sp) : List V → Hp → VK → Prop := fun xs H Q => ∃ a dx fs, xs = [.ref a] ∧ H a = some (.ins C dx fs) ∧ sp [.ref a] H (fun z H' => ∃ y : Str, z = .str y ∧ Q (.str y) H') E0
theorem call_strO (hm : Meth X.K C "__str__" f) (F : FnOk X.prog X.w X.K X.mg X.base CX0 k f fd ps sp) (hr : Room (k + 2) X.A) (hb : Binds X.K fd ps []) : CallR X (.type "str") (rStrO C sp) := by
  intro pins s σ H xs us Q I r h
  obtain ⟨a, dx, fs, rfl, ha, q⟩ := h
  obtain ⟨u, rfl, ru⟩ := vals1 r
  cases (show u = Value.ref a from ru)
  obtain ⟨mA, J, _⟩ := ins_get I.hok ha
  obtain ⟨od, J, _⟩ := J.look
  have hr2 : Room k X.A.in1.in1 := (show Room (k + 1) X.A.in1 from Room.in1 hr).in1
  refine PySem.W.kso_call hr2.units0 I.kIn J hm.at_ hm.fn (wpAny_mono (run_atS (us := [.ref a]) (vs := [.ref a]) F hr2 I.env0.in1.in1 hb I (.cons rfl .nil) q) (fun w s' z => ?_) fun _ _ x => x)
  obtain ⟨z', H', I', rz, y, en, qz⟩ := z
  subst en
  obtain ⟨t, e⟩ := (show ∃ t, w = Value.str y t from rz)
  cases e
  exact ⟨.str y, H', I', ⟨t, rfl⟩, qz⟩
def rEqO (C : Addr) (sp : Sp) : R2 := fun x y H Q => ∃ a b dx dy fs gs, x = .ref a ∧ y = .ref b ∧ H a = some (.ins C dx fs) ∧ H b = some (.ins C dy gs) ∧ sp [x, y] H Q E0
theorem op_eqO (hm : Meth X.K C "__eq__" f) (F : FnOk X.prog X.w X.K X.mg X.base CX0 k f fd ps sp) (hr : Room k X.A) (hb : Binds X.K fd ps []) : OpR X (compareOp .Eq) (rEqO C sp) := by
  intro pins s σ H x y v u Q I rx ry h
  obtain ⟨a, b, dx, dy, fs, gs, rfl, rfl, ha, hb', q⟩ := h
  cases (show v = Value.ref a from rx)
  cases (show u = Value.ref b from ry)
  obtain ⟨mA, J, _⟩ := ins_get I.hok ha
  obtain ⟨mB, J', _⟩ := ins_get I.hok hb'
  obtain ⟨od, J, _⟩ := J.look
  obtain ⟨od', J', _⟩ := J'.look
  obtain ⟨m, hF⟩ := I.fr
  show wpAny (model X.prog X.w) X.A (richCompare .Eq (.ref a) (.ref b)) (EP X pins σ Q) X.xe s
  refine PySem.W.cmp_K (op := .Eq) (tb := .ref C) hr.units0 hF I.ok.mod.kin J J'.type (by simp [PySem.W.notFirst]) hm.at_ hm.fn ?_
  refine wpAny_mono (run_atS (us := [.ref a, .ref b]) (vs := [.ref a, .ref b]) F hr I.env0 hb I (.cons rfl (.cons rfl .nil)) q) (fun w s' z => ?_) fun _ _ x => x
  obtain ⟨z', H', I', rz, qz⟩ := z
  exact SlX.cmpback rz ⟨z', H', I', rz, qz⟩
end
/-- what != asks of a class -/
structure NI (K : PySem.W.Frag) (q : Addr) : Prop where
  ne : PySem.W.findIn K (.ref q) "__ne__" = some (some (.builtin "object.__ne__"))
  mo : PySem.W.mroIn K q (.type "object") = some true
section
variable {X : Cx} {C f : Addr} {fd : FuncData} {ps : List Str} {sp : Sp} {k : Nat}
def rNeO (C : Addr) (sp : Sp) : R2 := fun x y H Q => ∃ a b dx dy fs gs, x = .ref a ∧ y = .ref b ∧ H a = some (.ins C dx fs) ∧ H b = some (.ins C dy gs) ∧ sp [x, y] H (fun z H' => ∃ t : Bool, z = .bl t ∧ Q (.bl (!t)) H') E0
theorem op_neO (ni : NI X.K C) (hm : Meth X.K C "__eq__" f) (F : FnOk X.prog X.w X.K X.mg X.base CX0 k f fd ps sp) (hr : Room (k + 1) X.A) (hb : Binds X.K fd ps []) : OpR X (compareOp .NotEq) (rNeO C sp) := by
  intro pins s σ H x y v u Q I rx ry h
  obtain ⟨a, b, dx, dy, fs, gs, rfl, rfl, ha, hb', q⟩ := h
  cases (show v = Value.ref a from rx)
  cases (show u = Value.ref b from ry)
  obtain ⟨mA, J, _⟩ := ins_get I.hok ha
  obtain ⟨mB, J', _⟩ := ins_get I.hok hb'
  obtain ⟨od, J, _⟩ := J.look
  obtain ⟨od', J', _⟩ := J'.look
  show wpAny (model X.prog X.w) X.A (richCompare .NotEq (.ref a) (.ref b)) (EP X pins σ Q) X.xe s
  refine NeX.ne_K hr.units0 hr.in1.units0 I.kIn J J' ni.ne ni.mo hm.at_ hm.fn (wpAny_mono (run_atS (us := [.ref a, .ref b]) (vs := [.ref a, .ref b]) F hr.in1 I.env0.in1 hb I (.cons rfl (.cons rfl .nil)) q) (fun w s' z => ?_) fun _ _ x => x)
  obtain ⟨z', H', I', rz, t, et, qz⟩ := z
  subst et
  cases (show w = Value.bool t from rz)
  exact ⟨t, rfl, .bl (!t), H', I', rfl, qz⟩
end
/-- what isinstance asks of a class -/
structure CI (K : PySem.W.Frag) (q : Addr) : Prop where
  ca : PySem.W.findIn K (.ref q) "__class__" = some (some (.builtin "object.__class__"))
  cn : PySem.W.specialIn K (.builtin "object.__class__") "__get__" = some (some (.builtin "getset_descriptor.__get__"))
  ct : PySem.W.takesIn K (.builtin "object.__class__") = some true
  cm : PySem.W.mroIn K q (.type "object") = some true
  kt : PySem.W.kitOne K (.ref q) (.ref q) = some true
section
variable {K : PySem.W.Frag} {H Ho : Hp} {R : Grp} {Q : VK} {C q : Addr} {v w : V} {sp : Sp} {m : Str} {cn : Str} {ns : List Str} {α : Type} [Py α]
theorem y_lenO (k : MetK C "__len__" (fun x H => sp [x] H (fun z H' => ∃ n : Int, z = .int n ∧ 0 ≤ n ∧ n < 2 ^ 63 ∧ Q (.int n) H') E0) v H) : rLenO C sp [v] H Q := by
  obtain ⟨a, dx, fs, rfl, h, _, k⟩ := k
  exact ⟨a, dx, fs, rfl, h, k⟩
theorem y_strO (k : MetK C "__str__" (fun x H => sp [x] H (fun z H' => ∃ y : Str, z = .str y ∧ Q (.str y) H') E0) v H) : rStrO C sp [v] H Q := by
  obtain ⟨a, dx, fs, rfl, h, _, k⟩ := k
  exact ⟨a, dx, fs, rfl, h, k⟩
theorem y_eqO (k : MetK C "__eq__" (fun x H => MetK C "__eq__" (fun y H => sp [x, y] H Q E0) w H) v H) : rEqO C sp v w H Q := by
  obtain ⟨a, dx, fs, rfl, h, _, k⟩ := k
  obtain ⟨b, dy, gs, rfl, h', _, k⟩ := k
  exact ⟨a, b, dx, dy, fs, gs, rfl, rfl, h, h', k⟩
theorem y_neO (k : MetK C "__eq__" (fun x H => MetK C "__eq__" (fun y H => sp [x, y] H (fun z H' => ∃ t : Bool, z = .bl t ∧ Q (.bl (!t)) H') E0) w H) v H) : rNeO C sp v w H Q := by
  obtain ⟨a, dx, fs, rfl, h, _, k⟩ := k
  obtain ⟨b, dy, gs, rfl, h', _, k⟩ := k
  exact ⟨a, b, dx, dy, fs, gs, rfl, rfl, h, h', k⟩
theorem y_isiO' (c : CF K q cn ns) (ci : CI K q) (k : MetK q "__eq__" (fun _ H => Q (.bl true) H) v H) : rIsi K [v, .ref q] H Q := by
  obtain ⟨a, dx, fs, rfl, h, _, k⟩ := k
  exact ⟨_, _, _, _, true, rfl, .own q, .base (.ins h c.cl ci.ca ci.cn ci.ct ci.cm), ci.kt, k⟩
theorem zstrS {X : Cx} : CallR X (.type "str") (fun xs H Q => ∃ a, xs = [.str a] ∧ Q (.str a) H) := SkE.call_str_str
theorem y_strS {y : Str} (k : Q (.str y) H) : (fun (xs : List V) (H : Hp) (Q : VK) => ∃ a, xs = [.str a] ∧ Q (.str a) H) [.str y] H Q := ⟨y, rfl, k⟩
def rDcp : List V → Hp → VK → Prop := fun xs H Q => ∃ (a : Addr) (kvs : List (Key × V)), xs = [.ref a] ∧ Rd H a (.dK kvs) ∧ ∀ p, H p = none → Q (.ref p) (upd H p (.dK kvs))
theorem zdcp {X : Cx} : CallR X (.type "dict") rDcp := call_dictD
theorem y_dcp {m : Dc Int α} (b : BD K R Ho v m) (z : Zs R H Ho) (k : ∀ p H' g, Zs (g ++ R) H' Ho → OD K Ho (.ref p) m g → Q (.ref p) H') : rDcp [v] H Q := by
  obtain ⟨p, kvs, rfl, d, h⟩ := b.rd z
  refine ⟨p, kvs, rfl, .of h, fun a ha => ?_⟩
  exact k a _ [(a, DKey.ho (κ := Int) kvs)] (z.root ha) ⟨a, kvs, rfl, d, rfl⟩
end
end Z

/-! # None, or a list of one's own -/
namespace Z
open PySem PySem.Spec PyProof.Rows L2
section
variable {K : PySem.W.Frag} {H Ho H' Ho' : Hp} {α β γ : Type} [Py α] [Py β] {Φ : γ → Prop} {R : Grp} {v w v0 v1 : V} {Q : VK} {p : Addr}
def OO (K : PySem.W.Frag) (Ho : Hp) (v : V) (o : Option (List α)) (g : Grp) : Prop := match o with
  | none => v = .non ∧ g = []
  | some xs => OL K Ho v xs g
theorem OO.mo {o : Option (List α)} {g : Grp} (h : OO K Ho v o g) (e : Same Ho Ho') : OO K Ho' v o g := by
  cases o with
  | none => exact h
  | some xs => exact OL.mo (show OL K Ho v xs g from h) e
theorem OO.non : OO K Ho .non (none : Option (List α)) [] := ⟨rfl, rfl⟩
theorem OO.some {xs : List α} {g : Grp} (h : OL K Ho v xs g) : OO K Ho v (some xs) g := h
theorem oo_dec {o : Option (List α)} {g : Grp} (h : OO K Ho v o g) : decide (v = .non) = o.isNone := by
  cases o with
  | none => rw [h.1]; rfl
  | some xs =>
    obtain ⟨q, vs, e, _⟩ := (show OL K Ho v xs g from h)
    rw [e]; rfl
theorem oo_open {o : Option (List α)} {g : Grp} {P : Prop} {f : List α → W γ} (h : OO K Ho v o g) (hw : (W.bind (W.opt o) f).run Φ) (k : ∀ xs, OL K Ho v xs g → (f xs).run Φ → P) : P := by
  obtain ⟨xs, e, hw⟩ := hw
  subst e
  exact k xs h hw
theorem ol_py {xs : List α} {g : Grp} (h : OL K Ho v xs g) : OL K Ho v (xs.map Py.toPy : List PyData) g := by
  obtain ⟨q, vs, e, d, eg⟩ := h
  refine ⟨q, vs, e, ?_, eg⟩
  show DqAll K Ho vs ((xs.map Py.toPy : List PyData).map Py.toPy)
  rw [List.map_map]
  exact d
theorem l_any {G : V → Prop} (k : G v) : LetV G v := k
theorem k_lst2 (z : Zs R H Ho) (k : ∀ p H', Zs ([(p, HO.lst [.non, v])] ++ R) H' Ho → Q (.ref p) H') : LstK Q [.non, v] H := ⟨by show 2 ≤ sizeLine; decide, fun p hp => k p _ (z.root hp)⟩
theorem y_ix2 {i : Int} {A B : W γ} (hm : ∀ r ∈ ([(p, HO.lst [v0, v1])] : Grp), r ∈ R) (z : Zs R H Ho) (hw : (W.guard (i = 0 ∨ i = 1) (W.ite (decide (i = 0)) A B)).run Φ) (k0 : A.run Φ → Q v0 H) (k1 : B.run Φ → Q v1 H) : rIxL K (.ref p) (.int i) H Q := by
  obtain ⟨hg, h0, h1⟩ := hw
  have sq : SqL K H p [v0, v1] := SqL.of (z.rt _ (hm _ List.mem_cons_self)).1
  rcases hg with rfl | rfl
  · exact ⟨p, [v0, v1], 0, v0, rfl, rfl, sq, rfl, k0 (h0 rfl)⟩
  · exact ⟨p, [v0, v1], 1, v1, rfl, rfl, sq, rfl, k1 (h1 rfl)⟩
/-- a name that is set by a loop's turn -/
def LateD (K : PySem.W.Frag) (Ho : Hp) (y : Option V) (o : Option β) : Prop := ∀ a, o = some a → ∃ v, y = some v ∧ Z.D K Ho v a
theorem LateD.mo {y : Option V} {o : Option β} (h : LateD K Ho y o) (e : Same Ho Ho') : LateD K Ho' y o := fun a ea => by
  obtain ⟨v, ev, d⟩ := h a ea
  exact ⟨v, ev, D.mo d e⟩
theorem LateD.none {y : Option V} : LateD K Ho y (none : Option β) := fun a e => by cases e
theorem LateD.some {b : β} (d : Z.D K Ho v b) : LateD K Ho (some v) (some b) := fun a e => by cases e; exact ⟨v, rfl, d⟩
theorem late_open {y : Option V} {o : Option β} {P : Prop} {f : β → W γ} (h : LateD K Ho y o) (hw : (W.bind (W.opt o) f).run Φ) (k : ∀ a v, y = some v → Z.D K Ho v a → (f a).run Φ → P) : P := by
  obtain ⟨a, e, hw⟩ := hw
  obtain ⟨v, ev, d⟩ := h a e
  exact k a v ev d hw
end
end Z

/-! # a def with one default, called with all its arguments or with the last by its name -/
namespace L2
open PySem PySem.Spec PyProof.Rows
section
variable {P : Program} {w : World} {K : PySem.W.Frag} {mg : Str → Option Value} {base : Heap} {x qual : Str} {params : Arguments} {body : List Stmt} {scope : Scope} {dvs : List V} {kws : List (Str × V)} {f T : Addr} {fd : FuncData} {d : V} {a b : Str}
theorem FunD.ok0 {N ps : List Str} {k : Nat} {sp : Sp} (F : FunD K x qual params body scope dvs kws f fd) (S : FnScope N ps scope) (len : ∀ vs H Q E, sp vs H Q E → vs.length = ps.length)
    (hbody : ∀ (cdv : Value) (A : Around) (outer : List Env) (s : Shared) (H : Hp) (vs : List V) (Q : VK) (E : XK), Room k (A.deeper (envOfC qual scope s.heap.objs.size f cdv)) → sp vs H Q E →
      ∃ t, PSs (cxOf CX0 P w K mg base N qual scope f cdv A outer s H E).nox body t ∧ t { nx := fun _ H' => Q .non H', rt := Q } (start N vs) H) : FnOk P w K mg base CX0 (k + 1) f fd ps sp := by
  obtain ⟨oc, od, dV, kV, doc, pm, an, cdv, ct, osl, rfl, lk, hcd, _, _⟩ := F.ex
  refine fn_of lk hcd S len fun A outer s H vs Q E hr hsp => ?_
  obtain ⟨t, h, q⟩ := hbody cdv A outer s H vs Q E hr hsp
  exact ⟨t, h.nox, q⟩
theorem FunD.okX {N ps : List Str} {k : Nat} {sp : Sp} (F : FunD K x qual params body scope dvs kws f fd) (S : FnScope N ps scope) (len : ∀ vs H Q E, sp vs H Q E → vs.length = ps.length)
    (hbody : ∀ (cdv : Value) (A : Around) (outer : List Env) (s : Shared) (H : Hp) (vs : List V) (Q : VK) (E : XK), Room k (A.deeper (envOfC qual scope s.heap.objs.size f cdv)) → sp vs H Q E →
      ∃ t, PSs (cxOf (L2.CX P w) P w K mg base N qual scope f cdv A outer s H E) body t ∧ t { nx := fun _ H' => Q .non H', rt := Q } (start N vs) H) : FnOk P w K mg base (L2.CX P w) (k + 1) f fd ps sp := F.ok S len hbody
theorem fund_mk {st : Stmt} {oc : Value} {od an : Option Addr} {osl : Array (Option Value)} {kV doc pm cdv ct tc : Value} {td : Option Addr} {tn : Nat} {tsl : Array (Option Value)} {i : Int} {tk : Tok}
    (l : K.lookup f = some ⟨oc, od, .func (PySem.W.fnOf x qual (defArgs st) (defBody st) (defScope st) (.ref T) kV doc pm an cdv ct), osl⟩)
    (c : PySem.W.codeIn K cdv qual = true) (k : PySem.W.keepIn K (.ref f) = true) (t : K.lookup T = some ⟨tc, td, .seq #[.int i tk] tn, tsl⟩) : FunD K x qual (defArgs st) (defBody st) (defScope st) [V.int i] [] f (PySem.W.fnOf x qual (defArgs st) (defBody st) (defScope st) (.ref T) kV doc pm an cdv ct) :=
  ⟨⟨oc, od, _, kV, doc, pm, an, cdv, ct, osl, rfl, l, c, .inr ⟨by simp, T, _, [.int i tk], tn, rfl, t, rfl, .cons ⟨tk, rfl⟩ .nil⟩, .inl rfl⟩, k⟩
theorem FunD.pos2 (F : FunD K x qual params body scope [d] [] f fd)
    (h : ∀ (T : Addr) (kV doc pm : Value) (an : Option Addr) (cdv ct : Value) (us its : List Value), us.length = 2 → its.length = 1 →
      ∃ k, bindArgs (PySem.W.fnOf x qual params body scope (.ref T) kV doc pm an cdv ct) ⟨us, []⟩ = seqItems? (.ref T) >>= k ∧ k (some its.toArray) = pure ([a, b].zip (us ++ its.drop 1))) : Binds K fd [a, b] [] := by
  obtain ⟨ds, r, hb⟩ := F.binds1 (ps := [a, b]) 2 1 (by simp) rfl h
  cases r
  exact hb
theorem FunD.kw1 (F : FunD K x qual params body scope [d] [] f fd)
    (h : ∀ (T : Addr) (kV doc pm : Value) (an : Option Addr) (cdv ct : Value) (us its ws : List Value), us.length = 1 → its.length = 1 → ws.length = 1 →
      ∃ k, bindArgs (PySem.W.fnOf x qual params body scope (.ref T) kV doc pm an cdv ct) ⟨us, [b].zip ws⟩ = seqItems? (.ref T) >>= k ∧ k (some its.toArray) = pure ([a, b].zip (us ++ ws))) :
    KBn K fd [a, b] 1 [b] (fun us ws => us ++ ws) (fun vs zs => vs ++ zs) := by
  obtain ⟨oc, od, dV, kV, doc, pm, an, cdv, ct, osl, rfl, lk, hcd, hD, hK⟩ := F.ex
  rcases hD with ⟨e, _⟩ | ⟨_, T, o, its, m, rfl, lT, oT, rT⟩
  · cases e
  · refine ⟨fun s us ws X l1 l2 => ?_, fun r1 r2 => r1.append r2⟩
    obtain ⟨k, e1, e2⟩ := h T kV doc pm an cdv ct us its ws l1 rT.length.symm l2
    refine BindsTo.of_looks fun M => ?_
    rw [e1]
    exact looks_items X lT oT (.of_pure e2)
end
end L2
namespace Z
open PySem PySem.Spec PyProof.Rows L2
theorem y_callN {n m : Nat} {sp : Sp} {gV : List V → List V → List V} {E : XK} {t tk : TA} {σ : L2.St} {H : Hp} {Q : VK} (k : t σ H fun vs H1 => tk σ H1 fun zs H2 => vs.length = n ∧ zs.length = m ∧ sp (gV vs zs) H2 Q E) : tCallN n m sp gV E t tk σ H Q := k
def rAddBB : R2 := fun x y H Q => ∃ a b, x = .bl a ∧ y = .bl b ∧ Q (.int ((if a = true then (1 : Int) else 0) + (if b = true then (1 : Int) else 0))) H
theorem zop_addBB {X : Cx} : OpR X (binaryOp .Add) rAddBB := by
  intro pins s σ H x y v u Q I rx ry h
  obtain ⟨a, b, rfl, rfl, q⟩ := h
  cases rx
  cases ry
  exact add_bool ⟨.int _, H, I.tok _, ⟨_, rfl⟩, q⟩
theorem y_addBB {a b : Bool} {Q : VK} {H : Hp} (k : Q (.int ((if a = true then (1 : Int) else 0) + (if b = true then (1 : Int) else 0))) H) : rAddBB (.bl a) (.bl b) H Q := ⟨a, b, rfl, rfl, k⟩
end Z

/-! # as Ydfl's calls by name, where the def may let errors out -/
namespace L2
open PySem PySem.Spec PyProof.Rows
def tCallNS (n m : Nat) (sp : Sp) (gV : List V → List V → List V) (E : St → XK) (t tk : TA) : TE := fun σ H Q => t σ H fun vs H1 => tk σ H1 fun zs H2 => vs.length = n ∧ zs.length = m ∧ sp (gV vs zs) H2 Q (E σ)
section
variable {X : Cx} {CX : CXT} {k n : Nat} {f : Addr} {fd : FuncData} {ps ks : List Str} {sp : Sp} {E : St → XK} {x : Str} {p pos : Pos} {e : Expr} {es : List Expr} {kws : List Keyword} {t tk : TA} {g : List Value → List Value → List Value} {gV : List V → List V → List V}
theorem run_fnNS {pins : List (Addr × Obj)} {σ : St} {H : Hp} {s : Shared} {Q : VK} {us ws : List Value} {vs zs : List V} (F : FnOk X.prog X.w X.K X.mg X.base CX k f fd ps sp) (hr : Room k X.A) (hb : KBn X.K fd ps n ks g gV) (hx : PassesAt CX X σ (E σ))
    (I : Inv X pins σ H s) (r : Vals vs us) (rz : Vals zs ws) (l1 : vs.length = n) (l2 : zs.length = ks.length) (h : sp (gV vs zs) H Q (E σ)) : wpAny (model X.prog X.w) X.A (call (.ref f) us (ks.zip ws)) (EP X pins σ Q) X.xe s := by
  have r2 := hb.rel r rz
  refine wpAny_call (codeAny_mono (F.run X.A X.stack s H ⟨us, ks.zip ws⟩ (g us ws) (gV vs zs) Q (E σ) hr I.env0 (hb.to s us ws I.kIn (r.length.symm.trans l1) (rz.length.symm.trans l2)) r2 h) fun r s' hq => ?_)
  cases r with
  | error e => exact hx pins H s e s' I hq
  | ok fl =>
    cases fl with
    | ret u => exact I.after hq
    | next => exact False.elim hq
    | brk => exact False.elim hq
    | cont => exact False.elim hq
theorem pe_callNS (F : FnOk X.prog X.w X.K X.mg X.base CX k f fd ps sp) (hr : Room k X.A) (hg : Gl X x) (hm : X.mg x = some (.ref f)) (hk : PySem.W.keepIn X.K (.ref f) = true) (hb : KBn X.K fd ps n ks g gV) (hx : ∀ σ, PassesAt CX X σ (E σ))
    (ha : PA X (e :: es) t) (hkw : PK X kws tk) (hall : (backToKw pos (keywordEach kws X.env)).all (·.1.isSome) = true := by rfl) (hks : (backToKw pos (keywordEach kws X.env)).filterMap (·.1) = ks := by rfl)
    (hdb : (x == ("__debug__" : Str)) = false := by decide) (he : starEach (e :: es) X.env = (false, eval e X.env) :: starEach es X.env := by rfl)
    (hpl : ((backTo pos (starEach (e :: es) X.env)).any (·.1) || (backToKw pos (keywordEach kws X.env)).any (·.1.isNone)) = false := by rfl) :
    PE X (.Call (.Name x p) (e :: es) kws pos) (tCallNS n ks.length sp gV E t tk) := by
  refine ⟨fun pins s σ H Q I h => ?_⟩
  refine wpAny_Call_Name_kw (ld_glob I hg hm ?_ hdb)
  refine PySem.W.callWith_KW (h₀ := X.base) I.ok.mod.kin hk hall (thn (ha.run pos pins s σ H _ I h) fun us s1 ⟨vs, H1, I1, r, q⟩ => ?_) hpl he
  refine thn (hkw.run pos pins s1 σ H1 _ I1 q) fun ws s2 ⟨zs, H2, I2, rz, l1, l2, q2⟩ => ⟨I2.kIn, ?_⟩
  rw [hks]
  exact run_fnNS F hr hb (hx σ) I2 r rz l1 l2 q2
end
end L2
namespace Z
open PySem PySem.Spec PyProof.Rows L2
theorem y_callNS {n m : Nat} {sp : Sp} {gV : List V → List V → List V} {E : L2.St → XK} {t tk : TA} {σ : L2.St} {H : Hp} {Q : VK} (k : t σ H fun vs H1 => tk σ H1 fun zs H2 => vs.length = n ∧ zs.length = m ∧ sp (gV vs zs) H2 Q (E σ)) : tCallNS n m sp gV E t tk σ H Q := k
end Z

/-! # all is lent up to a scalar answer; own lists of own things -/
namespace Z
open PySem PySem.Spec PyProof.Rows L2
section
variable {K : PySem.W.Frag} {H Ho H' Ho' : Hp} {rs rs' g R : Grp} {v w : V}
/-- all that there is stands for good, up to the answer of a call -/
theorem Zs.all (z : Zs rs H Ho) : Zs [] H H := ⟨Same.refl _, (fun r hr => nomatch hr), List.nodup_nil, (fun r hr => nomatch hr)⟩
theorem Zs.unlend (z : Zs rs H Ho) (e : Same H Ho') (z' : Zs [] H' Ho') : Zs rs H' Ho :=
  ⟨(z.le.trans e).trans z'.le, fun r hr => ⟨z'.le _ _ (e _ _ (z.rt r hr).1), (z.rt r hr).2⟩, z.nd, z.nt⟩
theorem Zs.unlendO (z : Zs rs H Ho) (e : Same H Ho') (z' : Zs (g ++ []) H' Ho') : Zs (g ++ rs) H' Ho := by
  rw [List.append_nil] at z'
  have nw : ∀ r ∈ g, H r.1 = none := fun r hr => by
    cases h : H r.1 with
    | none => rfl
    | some o =>
      have := e _ _ h
      rw [(z'.rt r hr).2] at this
      cases this
  refine ⟨(z.le.trans e).trans z'.le, fun r hr => ?_, ?_, fun r hr => ?_⟩
  · rcases List.mem_append.mp hr with h | h
    · exact ⟨(z'.rt r h).1, z.free (nw r h)⟩
    · exact ⟨z'.le _ _ (e _ _ (z.rt r h).1), (z.rt r h).2⟩
  · rw [List.map_append, List.nodup_append]
    refine ⟨z'.nd, z.nd, fun a ha b hb c => ?_⟩
    subst c
    obtain ⟨r, hr, rfl⟩ := List.mem_map.mp ha
    obtain ⟨r', hr', c⟩ := List.mem_map.mp hb
    have := (z.rt r' hr').1
    rw [c, nw r hr] at this
    cases this
  · rcases List.mem_append.mp hr with h | h
    · exact z'.nt r h
    · exact z.nt r h
theorem Zs.in_ (z : Zs rs H Ho) (m : ∀ r ∈ g, r ∈ rs) : ∀ r ∈ g, H r.1 = some r.2 := fun r h => (z.rt r (m r h)).1
/-- a group of roots stands for good from now on -/
theorem Zs.frG : ∀ {g : Grp} {Ho : Hp}, Zs (g ++ R) H Ho → ∃ Ho', Same Ho Ho' ∧ Zs R H Ho' ∧ ∀ r ∈ g, Ho' r.1 = some r.2
  | [], Ho, z => ⟨Ho, Same.refl _, z, fun r h => nomatch h⟩
  | (p, o) :: g, Ho, z => by
    have z1 : Zs ((p, o) :: (g ++ R)) H Ho := z
    obtain ⟨Ho', e, z2, h⟩ := Zs.frG (g := g) z1.freeze
    refine ⟨Ho', (Same.new z1.headN).trans e, z2, fun r hr => ?_⟩
    rcases List.mem_cons.mp hr with q | q
    · subst q
      exact e _ _ upd_same
    · exact h r q
end
/-! ### own things in general -/
abbrev OwnPred (β : Type) := PySem.W.Frag → Hp → V → β → Grp → Prop
class OwnD {β : Type} [Py β] (P : OwnPred β) : Prop where
  mo : ∀ {K : PySem.W.Frag} {Ho Ho2 : Hp} {v : V} {x : β} {g : Grp}, P K Ho v x g → Same Ho Ho2 → P K Ho2 v x g
  rd : ∀ {K : PySem.W.Frag} {Ho H : Hp} {v : V} {x : β} {g : Grp}, P K Ho v x g → Same Ho H → (∀ r ∈ g, H r.1 = some r.2) → Z.D K H v x
/-- what needs no heap -/
class Pur (α : Type) [Py α] : Prop where
  pu : ∀ {K : PySem.W.Frag} {H H' : Hp} {v : V} {x : α}, Z.D K H v x → Z.D K H' v x
instance : Pur Int := ⟨fun d => by rw [d_int d]; exact .int _⟩
instance : Pur Bool := ⟨fun d => by rw [d_bool d]; exact .bl _⟩
instance : Pur Str := ⟨fun d => by rw [d_str d]; exact .str _⟩
section
variable {K : PySem.W.Frag} {H Ho H' Ho' : Hp} {R : Grp} {v w : V} {α β γ : Type} [Py α] [Py β] {Φ : γ → Prop} {Q : VK}
instance : OwnD (fun K Ho v xs g => OL (α := α) K Ho v xs g) where
  mo := fun o e => OL.mo o e
  rd := fun o e m => by
    obtain ⟨p, vs, rfl, d, rfl⟩ := o
    exact .lst (SqL.of (m _ List.mem_cons_self)) (DL.mo d e)
theorem DL.pu [Pur α] : ∀ {vs : List V} {xs : List α}, DL K H vs xs → DL K H' vs xs
  | [], [], _ => .nil
  | [], _ :: _, h => by cases h
  | _ :: _, [], h => by cases h
  | v :: vs, x :: xs, h => by
    cases h with
    | cons h1 h2 => exact .cons (Pur.pu h1) (DL.pu h2)
theorem OL.pu [Pur α] {xs : List α} {g : Grp} (o : OL K Ho v xs g) : OL K Ho' v xs g := by
  obtain ⟨p, vs, rfl, d, rfl⟩ := o
  exact ⟨p, vs, rfl, d.pu, rfl⟩
theorem ow_fr {x : β} {P : OwnPred β} [OwnD P] {g : Grp} {X : Prop} (o : P K Ho v x g) (z : Zs (g ++ R) H Ho) (k : ∀ Ho', Same Ho Ho' → Zs R H Ho' → Z.D K Ho' v x → X) : X := by
  obtain ⟨Ho', e, z', m⟩ := z.frG
  exact k Ho' e z' (OwnD.rd o e m)
/-! ### own lists of own things -/
inductive RowO {β : Type} (P : V → β → Grp → Prop) : List V → List β → List Grp → Prop
  | nil : RowO P [] [] []
  | cons {v : V} {x : β} {g : Grp} {vs : List V} {xs : List β} {gs : List Grp} (h : P v x g) (t : RowO P vs xs gs) : RowO P (v :: vs) (x :: xs) (g :: gs)
theorem RowO.imp {P P' : V → β → Grp → Prop} (h : ∀ v x g, P v x g → P' v x g) : ∀ {vs : List V} {xs : List β} {gs : List Grp}, RowO P vs xs gs → RowO P' vs xs gs
  | _, _, _, .nil => .nil
  | _, _, _, .cons a t => .cons (h _ _ _ a) (t.imp h)
theorem RowO.len {P : V → β → Grp → Prop} : ∀ {vs : List V} {xs : List β} {gs : List Grp}, RowO P vs xs gs → vs.length = xs.length ∧ gs.length = xs.length
  | _, _, _, .nil => ⟨rfl, rfl⟩
  | _, _, _, .cons a t => ⟨by simp [t.len.1], by simp [t.len.2]⟩
theorem RowO.get {P : V → β → Grp → Prop} : ∀ {vs : List V} {xs : List β} {gs : List Grp} {i : Nat} {x : β}, RowO P vs xs gs → xs[i]? = some x → ∃ v g, vs[i]? = some v ∧ gs[i]? = some g ∧ P v x g
  | _, _, _, i, _, .nil, e => by simp at e
  | _, _, _, 0, _, .cons a t, e => by cases e; exact ⟨_, _, rfl, rfl, a⟩
  | _, _, _, i + 1, _, .cons a t, e => t.get (i := i) (by simpa using e)
theorem RowO.set {P : V → β → Grp → Prop} : ∀ {vs : List V} {xs : List β} {gs : List Grp} {i : Nat} {v : V} {x : β} {g : Grp}, RowO P vs xs gs → vs[i]? = some v → P v x g → RowO P vs (xs.set i x) (gs.set i g)
  | _, _, _, i, _, _, _, .nil, e, _ => by simp at e
  | _, _, _, 0, _, _, _, .cons a t, e, p => by cases e; exact .cons p t
  | _, _, _, i + 1, _, _, _, .cons a t, e, p => .cons a (t.set (i := i) (by simpa using e) p)
theorem RowO.snoc {P : V → β → Grp → Prop} : ∀ {vs : List V} {xs : List β} {gs : List Grp} {v : V} {x : β} {g : Grp}, RowO P vs xs gs → P v x g → RowO P (vs ++ [v]) (xs ++ [x]) (gs ++ [g])
  | _, _, _, _, _, _, .nil, p => .cons p .nil
  | _, _, _, _, _, _, .cons a t, p => .cons a (t.snoc p)
def OLo (P : OwnPred β) : OwnPred (List β) := fun K Ho v xs g => ∃ p vs gs, v = .ref p ∧ RowO (P K Ho) vs xs gs ∧ g = (p, HO.lst vs) :: gs.flatten
theorem OLo.mo {P : OwnPred β} [OwnD P] {xs : List β} {g : Grp} (h : OLo P K Ho v xs g) (e : Same Ho Ho') : OLo P K Ho' v xs g := by
  obtain ⟨p, vs, gs, rfl, r, rfl⟩ := h
  exact ⟨p, vs, gs, rfl, r.imp fun v x g h => OwnD.mo h e, rfl⟩
theorem RowO.rd {P : OwnPred β} [OwnD P] (e : Same Ho H) : ∀ {vs : List V} {xs : List β} {gs : List Grp}, RowO (P K Ho) vs xs gs → (∀ r ∈ gs.flatten, H r.1 = some r.2) → DL K H vs xs
  | _, _, _, .nil, _ => .nil
  | _, _, _, .cons a t, m => .cons (OwnD.rd a e fun r h => m r (by rw [List.flatten_cons]; exact List.mem_append_left _ h)) (RowO.rd e t fun r h => m r (by rw [List.flatten_cons]; exact List.mem_append_right _ h))
instance {P : OwnPred β} [OwnD P] : OwnD (OLo P) where
  mo := fun o e => OLo.mo o e
  rd := fun o e m => by
    obtain ⟨p, vs, gs, rfl, r, rfl⟩ := o
    exact .lst (SqL.of (m _ List.mem_cons_self)) (r.rd e fun q h => m q (List.mem_cons_of_mem _ h))
theorem flat_set {gs : List Grp} {i : Nat} {g g' : Grp} (h : gs[i]? = some g) : (gs.set i g').flatten.Perm (g' ++ (gs.set i []).flatten) := by
  induction gs generalizing i with
  | nil => simp at h
  | cons a gs ih =>
    cases i with
    | zero => simp
    | succ i =>
      have := ih (i := i) (by simpa using h)
      simp only [List.set_cons_succ, List.flatten_cons]
      refine (this.append_left a).trans ?_
      rw [← List.append_assoc, ← List.append_assoc]
      exact List.perm_append_comm.append_right _
theorem flat_at {gs : List Grp} {i : Nat} {g : Grp} (h : gs[i]? = some g) : gs.flatten.Perm (g ++ (gs.set i []).flatten) := by
  have e : gs.set i g = gs := by
    apply List.ext_getElem?
    intro j
    rw [List.getElem?_set]
    split
    · rename_i c; subst c
      obtain ⟨hl, _⟩ := List.getElem?_eq_some_iff.mp h
      rw [if_pos hl, h]
    · rfl
  have := flat_set (g' := g) h
  rwa [e] at this
/-- an item of a list is another one -/
def setI {α : Type} (xs : List α) (i : Int) (x : α) : List α := match ixN xs.length i with
  | some j => xs.set j x
  | none => xs
/-- a list, one of whose items (i) is looked after elsewhere -/
def OLh (P : OwnPred β) (i : Int) (u : V) : OwnPred (List β) := fun K Ho v xs g => ∃ p vs gs j, v = .ref p ∧ RowO (P K Ho) vs xs gs ∧ ixN xs.length i = some j ∧ vs[j]? = some u ∧ g = (p, HO.lst vs) :: (gs.set j []).flatten
theorem OLh.mo {P : OwnPred β} [OwnD P] {i : Int} {u : V} {xs : List β} {g : Grp} (h : OLh P i u K Ho v xs g) (e : Same Ho Ho') : OLh P i u K Ho' v xs g := by
  obtain ⟨p, vs, gs, j, rfl, r, q⟩ := h
  exact ⟨p, vs, gs, j, rfl, r.imp fun v x g h => OwnD.mo h e, q⟩
/-- an item's value is known -/
def ElAt (R : Grp) (v : V) (i : Int) (u : V) : Prop := ∃ p vs, v = .ref p ∧ (p, HO.lst vs) ∈ R ∧ atI vs i = some u
theorem at_ix {α : Type} {xs : List α} {i : Int} {x : α} (h : atI xs i = some x) : ∃ j, ixN xs.length i = some j ∧ xs[j]? = some x := by
  unfold atI at h
  cases q : ixN xs.length i with
  | none => rw [q] at h; cases h
  | some j => rw [q] at h; exact ⟨j, rfl, h⟩
theorem ix_at {α : Type} {xs : List α} {i : Int} {j : Nat} (h : ixN xs.length i = some j) : atI xs i = xs[j]? := by
  unfold atI
  rw [h]; rfl
/-- an item is taken into one's own hands (pb: it goes back as it was) -/
theorem o_open {P : OwnPred β} {xs : List β} {i : Int} {g : Grp} {f : β → W γ} {X : Prop} (o : OLo P K Ho v xs g) (z : Zs (g ++ R) H Ho) (hw : (W.bind (W.opt (atI xs i)) f).run Φ)
    (k : ∀ x u gi gh, (∀ R H Ho, Zs (gi ++ (gh ++ R)) H Ho → Zs (g ++ R) H Ho) → Zs (gi ++ (gh ++ R)) H Ho → OLh P i u K Ho v xs gh → P K Ho u x gi → (f x).run Φ → X) : X := by
  obtain ⟨x, ex, hw⟩ := hw
  obtain ⟨p, vs, gs, rfl, r, rfl⟩ := o
  obtain ⟨j, ej, hx⟩ := at_ix ex
  obtain ⟨u, gi, hu, hg, pu⟩ := r.get hx
  have pm : ∀ R : Grp, ((p, HO.lst vs) :: (gs.flatten ++ R)).Perm (gi ++ ((p, HO.lst vs) :: ((gs.set j []).flatten ++ R))) := fun R => by
    refine List.Perm.trans ?_ List.perm_middle.symm
    refine List.Perm.cons _ ?_
    rw [← List.append_assoc]
    exact (flat_at hg).append_right _
  exact k x u gi ((p, HO.lst vs) :: (gs.set j []).flatten) (fun R H Ho z => z.perm (pm R).symm) (z.perm (pm R)) ⟨p, vs, gs, j, rfl, r, ej, hu, rfl⟩ pu hw
/-- the same, the item's value known -/
theorem o_openE {P : OwnPred β} {xs : List β} {i : Int} {g R' : Grp} {u : V} {f : β → W γ} {X : Prop} (o : OLo P K Ho v xs g) (z : Zs (g ++ R) H Ho) (el : ElAt R' v i u) (m : ∀ r ∈ R', r ∈ g ++ R) (hw : (W.bind (W.opt (atI xs i)) f).run Φ)
    (k : ∀ x gi gh, (∀ R H Ho, Zs (gi ++ (gh ++ R)) H Ho → Zs (g ++ R) H Ho) → Zs (gi ++ (gh ++ R)) H Ho → OLh P i u K Ho v xs gh → P K Ho u x gi → (f x).run Φ → X) : X := by
  obtain ⟨p', vs', e1, m', e2⟩ := el
  have hp := (z.rt _ (m _ m')).1
  refine o_open o z hw fun x w gi gh pb z' oh pw hw => ?_
  have : w = u := by
    obtain ⟨p2, vs2, gs2, j, e, r2, ej, hj, hg2⟩ := id oh
    have ee := e1.symm.trans e
    cases ee
    have h3 := (z'.rt (p', HO.lst vs2) (List.mem_append_right _ (List.mem_append_left _ (by rw [hg2]; exact List.mem_cons_self)))).1
    have : vs2 = vs' := by
      have := h3.symm.trans hp
      cases this
      rfl
    subst this
    rw [← r2.len.1] at ej
    rw [ix_at ej, hj] at e2
    cases e2
    rfl
  subst this
  exact k x gi gh pb z' oh pw hw
/-- the item goes back into the list -/
theorem o_fill {P : OwnPred β} {xs : List β} {i : Int} {u : V} {x : β} {gi gh : Grp} {X : Prop} (oh : OLh P i u K Ho v xs gh) (o : P K Ho u x gi) (z : Zs (gi ++ (gh ++ R)) H Ho)
    (k : ∀ g, Zs (g ++ R) H Ho → OLo P K Ho v (setI xs i x) g → X) : X := by
  obtain ⟨p, vs, gs, j, rfl, r, ej, hu, rfl⟩ := oh
  obtain ⟨g0, hg⟩ : ∃ g, gs[j]? = some g := by
    have h1 := (List.getElem?_eq_some_iff.mp hu).1
    have := r.len
    exact ⟨_, List.getElem?_eq_getElem (by omega)⟩
  refine k ((p, HO.lst vs) :: (gs.set j gi).flatten) (z.perm ?_) ⟨p, vs, gs.set j gi, rfl, ?_, rfl⟩
  · show (gi ++ ((p, HO.lst vs) :: ((gs.set j []).flatten ++ R))).Perm ((p, HO.lst vs) :: ((gs.set j gi).flatten ++ R))
    refine List.perm_middle.trans (List.Perm.cons _ ?_)
    rw [← List.append_assoc]
    exact ((flat_set hg).symm).append_right _
  · unfold setI
    rw [ej]
    exact r.set hu o
/-- borrowed -/
def BLo (P : OwnPred β) (K : PySem.W.Frag) (R : Grp) (Ho : Hp) (v : V) (xs : List β) : Prop := ∃ g, OLo P K Ho v xs g ∧ ∀ r ∈ g, r ∈ R
theorem BLo.mo {P : OwnPred β} [OwnD P] {xs : List β} (h : BLo P K R Ho v xs) (e : Same Ho Ho') : BLo P K R Ho' v xs := by
  obtain ⟨g, o, m⟩ := h
  exact ⟨g, o.mo e, m⟩
theorem BLo.sub {P : OwnPred β} {R2 : Grp} {xs : List β} (h : BLo P K R Ho v xs) (e : ∀ r ∈ R, r ∈ R2) : BLo P K R2 Ho v xs := by
  obtain ⟨g, o, m⟩ := h
  exact ⟨g, o, fun r hr => e r (m r hr)⟩
theorem BLo.rd {P : OwnPred β} [OwnD P] {xs : List β} (h : BLo P K R Ho v xs) (z : Zs R H Ho) : Z.D K H v xs := by
  obtain ⟨g, o, m⟩ := h
  exact OwnD.rd o z.le (z.in_ m)
theorem y_lenLo {P : OwnPred β} {xs : List β} (h : BLo P K R Ho v xs) (z : Zs R H Ho) (k : Q (.int (xs.length : Int)) H) : rLenZ K [v] H Q := by
  obtain ⟨g, ⟨p, vs, gs, rfl, r, rfl⟩, m⟩ := h
  refine ⟨_, _, rfl, .inl (SqL.of (z.rt _ (m _ List.mem_cons_self)).1), ?_⟩
  rw [r.len.1]
  exact k
theorem y_ixLo {P : OwnPred β} {xs : List β} {i : Int} {rs : Grp} {f : β → W γ} (h : BLo P K R Ho v xs) (m0 : ∀ r ∈ R, r ∈ rs) (z : Zs rs H Ho) (hw : (W.bind (W.opt (atI xs i)) f).run Φ) (k : ∀ x u, ElAt R v i u → (∃ g, P K Ho u x g ∧ ∀ r ∈ g, r ∈ R) → (f x).run Φ → Q u H) : rIxL K v (.int i) H Q := by
  obtain ⟨x, ex, hw⟩ := hw
  obtain ⟨g, ⟨p, vs, gs, rfl, r, rfl⟩, m⟩ := h
  obtain ⟨j, ej, hx⟩ := at_ix ex
  obtain ⟨u, gi, hu, hg, pu⟩ := r.get hx
  have hm := m _ List.mem_cons_self
  have hat : atI vs i = some u := by
    rw [← r.len.1] at ej
    rw [ix_at ej, hu]
  exact ⟨p, vs, i, u, rfl, rfl, SqL.of (z.rt _ (m0 _ hm)).1, hat, k x u ⟨p, vs, rfl, hm, hat⟩ ⟨gi, pu, fun q hq => m q (List.mem_cons_of_mem _ (List.mem_flatten.mpr ⟨gi, List.mem_of_getElem? hg, hq⟩))⟩ hw⟩
/-- xs.append(x), both one's own: x goes into xs -/
theorem g_appO {P : OwnPred β} {xs : List β} {x : β} {g gi : Grp} {f : List β → W γ} (z : Zs (gi ++ (g ++ R)) H Ho) (o : OLo P K Ho v xs g) (ox : P K Ho w x gi) (hw : (W.bind (apd xs x) f).run Φ)
    (k : ∀ xs' g' H', Zs (g' ++ R) H' Ho → OLo P K Ho v xs' g' → (f xs').run Φ → Q .non H') : rAppend v [w] H Q := by
  obtain ⟨p, vs, gs, rfl, r, rfl⟩ := o
  have z1 : Zs ((p, HO.lst vs) :: (gi ++ (gs.flatten ++ R))) H Ho := z.perm List.perm_middle
  refine ⟨p, vs, w, rfl, rfl, z1.head, by rw [r.len.1]; exact hw.1, k _ ((p, HO.lst (vs ++ [w])) :: (gs ++ [gi]).flatten) _ ?_ ⟨p, _, _, rfl, r.snoc ox, rfl⟩ hw.2⟩
  refine z1.put.perm (List.Perm.cons _ ?_)
  rw [List.flatten_append, List.flatten_singleton, ← List.append_assoc]
  exact List.perm_append_comm.append_right _
/-- a loop over such a list, each item changed in its turn -/
def mapL {β : Type} : List β → (β → W (Unit × β)) → W (List β)
  | [], _ => W.ret []
  | x :: xs, c => W.bind (c x) fun r => W.bind (mapL xs c) fun ys => W.ret (r.2 :: ys)
theorem set_mid {α : Type} : ∀ {xs ys : List α} {x y : α}, (xs ++ x :: ys).set xs.length y = xs ++ y :: ys
  | [], _, _, _ => rfl
  | a :: xs, ys, x, y => by simp [set_mid (xs := xs)]
theorem y_forM {P : OwnPred β} [OwnD P] {xs : List β} {c : β → W (Unit × β)} {f : List β → W γ} {g : Grp} {tg : TG} {tb u1 : TS} {D : Ends} {σ : L2.St} (o : OLo P K Ho v xs g) (z : Zs (g ++ R) H Ho) (hw : (W.bind (mapL xs c) f).run Φ) (I : L2.St → Prop) (i0 : I σ)
    (step : ∀ a u gi R' σ' H' Ho' (N : L2.St → Hp → Prop), Zs (gi ++ R') H' Ho' → P K Ho' u a gi → I σ' → (c a).run (fun r => ∀ σ'' gi' H'' Ho'', I σ'' → Same Ho' Ho'' → Zs (gi' ++ R') H'' Ho'' → P K Ho'' u r.2 gi' → N σ'' H'') → tg u σ' H' fun σ2 H2 => tb { D with nx := N, ct := N, bk := u1 D } σ2 H2)
    (done : ∀ xs' g' σ' H' Ho', Same Ho Ho' → Zs (g' ++ R) H' Ho' → OLo P K Ho' v xs' g' → I σ' → (f xs').run Φ → u1 D σ' H') : SrcL K (fun J H1 => ForG tg tb u1 D σ J H1) v H := by
  obtain ⟨p, vs, gs, rfl, r, rfl⟩ := o
  refine ⟨p, rfl, ⟨vs, SqL.of (z.rt _ (List.mem_append_left _ List.mem_cons_self)).1⟩, ?_⟩
  refine ⟨fun i m σ' H' => m = xs.length - i ∧ ∃ Ho' xs' ys gs', Same Ho Ho' ∧ xs'.length = i ∧ i + ys.length = xs.length ∧ RowO (P K Ho') vs (xs' ++ ys) gs' ∧ Zs (((p, HO.lst vs) :: gs'.flatten) ++ R) H' Ho' ∧ I σ' ∧ (W.bind (mapL ys c) fun zs => f (xs' ++ zs)).run Φ,
    ⟨xs.length, by simp, Ho, [], xs, gs, Same.refl _, rfl, by simp, r, z, i0, hw⟩, ?_⟩
  rintro i m σ' H' ⟨rfl, Ho', xs', ys, gs', e', l1, l2, r', z', hI, hw⟩
  have sq : SqL K H' p vs := SqL.of (z'.rt _ (List.mem_append_left _ List.mem_cons_self)).1
  cases ys with
  | nil =>
    refine .inl ⟨⟨vs, sq, ?_⟩, ?_⟩
    · rw [r'.len.1, List.append_nil, l1]; exact Nat.le_refl _
    · rw [List.append_nil] at r'
      have hw : (f (xs' ++ [])).run Φ := hw
      rw [List.append_nil] at hw
      exact done xs' _ σ' H' Ho' e' z' ⟨p, vs, gs', rfl, r', rfl⟩ hI hw
  | cons y ys =>
    refine .inr ?_
    have hx : (xs' ++ y :: ys)[i]? = some y := by rw [List.getElem?_append_right (by omega), l1]; simp
    obtain ⟨u, gi, hu, hg, pu⟩ := r'.get hx
    refine ⟨⟨vs, u, sq, hu⟩, fun σ'' H'' => ∃ Ho' xs' ys gs', Same Ho Ho' ∧ xs'.length = i + 1 ∧ i + 1 + ys.length = xs.length ∧ RowO (P K Ho') vs (xs' ++ ys) gs' ∧ Zs (((p, HO.lst vs) :: gs'.flatten) ++ R) H'' Ho' ∧ I σ'' ∧ (W.bind (mapL ys c) fun zs => f (xs' ++ zs)).run Φ,
      fun σ'' H'' hN => ⟨xs.length - (i + 1), by rw [List.length_cons] at l2; omega, rfl, hN⟩, fun x H'' yy => ?_⟩
    obtain ⟨rfl, yy⟩ := yy
    have ex : x = u := Option.some.inj ((yy _ sq).symm.trans hu)
    subst ex
    have z2 : Zs (gi ++ ((p, HO.lst vs) :: ((gs'.set i []).flatten ++ R))) H'' Ho' := z'.perm (by
      refine List.Perm.trans ?_ List.perm_middle.symm
      refine List.Perm.cons _ ?_
      rw [← List.append_assoc]
      exact (flat_at hg).append_right _)
    refine step y x gi _ σ' H'' Ho' _ z2 pu hI ?_
    refine W.mono _ _ _ (fun q hq σ3 gi' H3 Ho3 hI3 e3 z3 pq => ?_) (show (c y).run _ from hw)
    refine ⟨Ho3, xs' ++ [q.2], ys, gs'.set i gi', e'.trans e3, by simp [l1], by rw [List.length_cons] at l2; omega, ?_, ?_, hI3, ?_⟩
    · have r4 := (r'.imp (P' := P K Ho3) fun v x g h => OwnD.mo h e3).set hu pq
      rw [← l1, set_mid] at r4
      rw [List.append_assoc]
      rw [← l1]
      exact r4
    · refine z3.perm (List.perm_middle.trans (List.Perm.cons _ ?_))
      rw [← List.append_assoc]
      exact ((flat_set hg).symm).append_right _
    · have hq : (W.bind (mapL ys c) fun zs => f (xs' ++ q.2 :: zs)).run Φ := hq
      have : (fun zs => f (xs' ++ [q.2] ++ zs)) = fun zs => f (xs' ++ q.2 :: zs) := by funext zs; rw [List.append_assoc]; rfl
      rw [this]
      exact hq
theorem g_tyLo {P : OwnPred β} {xs : List β} {X : Prop} (h : BLo P K R Ho v xs) (z : Zs R H Ho) (k : X) : tyV K "list" v H ∧ X := by
  obtain ⟨g, ⟨p, vs, gs, rfl, r, rfl⟩, m⟩ := h
  exact ⟨.inl ⟨rfl, _, SqL.of (z.rt _ (m _ List.mem_cons_self)).1⟩, k⟩
theorem g_clearO {P : OwnPred β} {xs : List β} {g : Grp} (z : Zs (g ++ R) H Ho) (o : OLo P K Ho v xs g) (k : ∀ g' H', Zs (g' ++ R) H' Ho → OLo P K Ho v ([] : List β) g' → Q .non H') : rClear v [] H Q := by
  obtain ⟨p, vs, gs, rfl, r, rfl⟩ := o
  have z1 : Zs ((p, HO.lst vs) :: R) H Ho := z.sub (List.Sublist.cons₂ _ (List.sublist_append_right _ _))
  exact ⟨p, vs, rfl, rfl, z1.head, k [(p, HO.lst [])] _ z1.put ⟨p, [], [], rfl, .nil, rfl⟩⟩
theorem o_nil {P : OwnPred β} {p : Addr} : OLo P K Ho (.ref p) ([] : List β) [(p, HO.lst [])] := ⟨p, [], [], rfl, .nil, rfl⟩
end
/-! ### comprehensions that tell own things -/
/-- the turns of an iterator: what is known of each item -/
def TrnP {α : Type} (P : Hp → V → α → Prop) (r0 : Grp) (J : It) (xs : List α) (Ho2 : Hp) : Prop :=
  ∀ i rs' H' Ho', Same Ho2 Ho' → Zs rs' H' Ho' → (∀ r ∈ r0, r ∈ rs') → (∀ a, xs[i]? = some a → J.go i H' ∧ ∀ x H'', J.yld i H' x H'' → ∃ Ho'', Same Ho' Ho'' ∧ (∀ rs, Zs rs H' Ho' → Zs rs H'' Ho'') ∧ P Ho'' x a) ∧ (xs.length ≤ i → J.stop i H')
section
variable {K : PySem.W.Frag} {H Ho H' Ho' : Hp} {R r0 rs : Grp} {v w : V} {α β γ : Type} [Py β] {Φ : γ → Prop} {Q : VK} {σ : L2.St} {g : TG} {tt : TT} {te : TE} {vs : List Nat}
theorem trn_bor {P : OwnPred α} [Py α] [OwnD P] {xs : List α} (h : BLo P K r0 Ho v xs) (z : Zs r0 H Ho) : ∃ p, v = .ref p ∧ (∃ ys, SqL K H p ys) ∧ TrnP (fun Ho x a => ∃ g, P K Ho x a g ∧ ∀ r ∈ g, r ∈ r0) r0 (Itl K p) xs Ho := by
  obtain ⟨g, ⟨p, vs, gs, rfl, r, rfl⟩, m⟩ := h
  have hm := m _ List.mem_cons_self
  refine ⟨p, rfl, ⟨vs, SqL.of (z.rt _ hm).1⟩, ?_⟩
  intro i rs' H' Ho' e z' sub
  have sq : SqL K H' p vs := SqL.of (z'.rt _ (sub _ hm)).1
  refine ⟨fun a ha => ?_, fun hl => ⟨vs, sq, by rw [r.len.1]; exact hl⟩⟩
  obtain ⟨u, gi, hu, hg, pu⟩ := r.get ha
  refine ⟨⟨vs, u, sq, hu⟩, fun x H'' y => ?_⟩
  obtain ⟨rfl, y⟩ := y
  have ex : x = u := Option.some.inj ((y _ sq).symm.trans hu)
  subst ex
  refine ⟨Ho', Same.refl _, fun _ z => z, gi, OwnD.mo pu e, fun q hq => m q (List.mem_cons_of_mem _ ?_)⟩
  exact List.mem_flatten.mpr ⟨gi, List.mem_of_getElem? hg, hq⟩
theorem k_srcB {P : OwnPred α} [Py α] [OwnD P] {RI : It → Hp → Prop} {xs : List α} (h : BLo P K r0 Ho v xs) (m : ∀ r ∈ r0, r ∈ rs) (z : Zs rs H Ho) (k : ∀ J, TrnP (fun Ho x a => ∃ g, P K Ho x a g ∧ ∀ r ∈ g, r ∈ r0) r0 J xs Ho → RI J H) : SrcL K RI v H := by
  obtain ⟨g, ⟨p, vs, gs, rfl, r, rfl⟩, m1⟩ := h
  have hm := m1 _ List.mem_cons_self
  refine ⟨p, rfl, ⟨vs, SqL.of (z.rt _ (m _ hm)).1⟩, k _ ?_⟩
  intro i rs' H' Ho' e z' sub
  have sq : SqL K H' p vs := SqL.of (z'.rt _ (sub _ hm)).1
  refine ⟨fun a ha => ?_, fun hl => ⟨vs, sq, by rw [r.len.1]; exact hl⟩⟩
  obtain ⟨u, gi, hu, hg, pu⟩ := r.get ha
  refine ⟨⟨vs, u, sq, hu⟩, fun x H'' y => ?_⟩
  obtain ⟨rfl, y⟩ := y
  have ex : x = u := Option.some.inj ((y _ sq).symm.trans hu)
  subst ex
  refine ⟨Ho', Same.refl _, fun _ z => z, gi, OwnD.mo pu e, fun q hq => m1 q (List.mem_cons_of_mem _ ?_)⟩
  exact List.mem_flatten.mpr ⟨gi, List.mem_of_getElem? hg, hq⟩
theorem y_lcGP {PI : Hp → V → α → Prop} {J : It} {xs : List α} {ct : α → W Bool} {cf : α → W β} {f : List β → W γ} (z : Zs rs H Ho) (hr : ∀ r ∈ r0, r ∈ rs) (T : TrnP PI r0 J xs Ho) (hw : (W.bind (compG xs ct cf) f).run Φ)
    (hx : ∀ (r : Addr × HO) a x H' Ho' (N : VK) (N' : Hp → Prop), Same Ho Ho' → Zs (r :: rs) H' Ho' → PI Ho' x a →
      (W.bind (ct a) fun b => W.ite b (cf a) ⟨fun Ψ => ∀ H'' Ho'', Same Ho' Ho'' → Zs (r :: rs) H'' Ho'' → N' H'', fun _ _ _ q => q⟩).run (fun y => ∀ w H'' Ho'', Same Ho' Ho'' → Zs (r :: rs) H'' Ho'' → Z.D K Ho'' w y → N w H'') →
      g x (wipe σ vs) H' fun σ2 H2 => wipe σ2 vs = wipe σ vs ∧ tt σ2 H2 fun b H3 => if b = true then te σ2 H3 N else N' H3)
    (k : ∀ ys H' Ho', Same Ho Ho' → (f ys).run Φ → ∀ p ws, Zs ((p, .lst ws) :: rs) H' Ho' → DL K Ho' ws ys → Q (.ref p) H') : LcG g tt te vs σ Q J H := by
  intro Dn hD
  obtain ⟨hsz, hw⟩ := hw
  refine ⟨fun i m H => m = xs.length - i ∧ i ≤ xs.length ∧ ∃ (Ho' : Hp) (acc : List β) (acs : List V), Same Ho Ho' ∧ Zs ((Dn, .lst acs) :: rs) H Ho' ∧ DL K Ho' acs acc ∧ acs.length ≤ i ∧ (comp (xs.drop i) acc ct cf).run fun ys => (f ys).run Φ,
    ⟨xs.length, by simp, Nat.zero_le _, Ho, [], [], Same.refl _, z.root hD, .nil, Nat.le_refl _, hw⟩, ?_⟩
  rintro i m H ⟨rfl, hi, Ho', acc, acs, e', z', da, la, hw⟩
  have tr := T i _ H Ho' e' z' fun r hrr => List.mem_cons_of_mem _ (hr r hrr)
  by_cases hlt : i < xs.length
  · refine .inr ?_
    have hxi := List.getElem?_eq_getElem hlt
    obtain ⟨go, yl⟩ := tr.1 _ hxi
    refine ⟨go, fun H' => ∃ (Ho' : Hp) (acc : List β) (acs : List V), Same Ho Ho' ∧ Zs ((Dn, .lst acs) :: rs) H' Ho' ∧ DL K Ho' acs acc ∧ acs.length ≤ i + 1 ∧ (comp (xs.drop (i + 1)) acc ct cf).run fun ys => (f ys).run Φ, fun H' hN => ⟨xs.length - (i + 1), by omega, rfl, hlt, hN⟩, fun x H' y => ?_⟩
    obtain ⟨Ho2, e2, z2, dx⟩ := yl x H' y
    rw [drop_cons hxi] at hw
    refine hx (Dn, .lst acs) _ x H' Ho2 _ _ (e'.trans e2) (z2 _ z') dx ?_
    have hw : (ct xs[i]).run fun b => (W.ite b (W.bind (cf xs[i]) fun y => comp (xs.drop (i + 1)) (acc ++ [y]) ct cf) (comp (xs.drop (i + 1)) acc ct cf)).run fun ys => (f ys).run Φ := hw
    show (ct xs[i]).run _
    refine W.mono _ _ _ (fun b hb => ?_) hw
    refine ⟨fun e => ?_, fun e H'' Ho'' e3 z3 => ?_⟩
    · refine W.mono _ _ _ (fun y hy w H'' Ho'' e3 z3 dw => ?_) (hb.1 e)
      refine ⟨acs, z3.head, by omega, Ho'', acc ++ [y], acs ++ [w], (e'.trans e2).trans e3, z3.put, (DL.mo (DL.mo da e2) e3).push dw, ?_, hy⟩
      rw [List.length_append]
      exact Nat.succ_le_succ la
    · exact ⟨Ho'', acc, acs, (e'.trans e2).trans e3, z3, DL.mo (DL.mo da e2) e3, Nat.le_succ_of_le la, hb.2 e⟩
  · have e : i = xs.length := by omega
    subst e
    refine .inl ⟨tr.2 (Nat.le_refl _), ?_⟩
    rw [List.drop_length] at hw
    exact k acc H Ho' e' hw Dn acs z' da
theorem y_lcO {P : OwnPred β} [OwnD P] {PI : Hp → V → α → Prop} {J : It} {xs : List α} {cf : α → W β} {f : List β → W γ} (z : Zs rs H Ho) (hr : ∀ r ∈ r0, r ∈ rs) (T : TrnP PI r0 J xs Ho) (hw : (W.bind (compG xs (fun _ => W.ret true) cf) f).run Φ)
    (hx : ∀ (r : Grp) a x H' Ho' (N : VK) (N' : Hp → Prop), Same Ho Ho' → Zs (r ++ rs) H' Ho' → PI Ho' x a →
      (cf a).run (fun y => ∀ w gi H'' Ho'', Same Ho' Ho'' → Zs (gi ++ (r ++ rs)) H'' Ho'' → P K Ho'' w y gi → N w H'') →
      g x (wipe σ vs) H' fun σ2 H2 => wipe σ2 vs = wipe σ vs ∧ tt σ2 H2 fun b H3 => if b = true then te σ2 H3 N else N' H3)
    (k : ∀ ys u gn H' Ho', Same Ho Ho' → (f ys).run Φ → Zs (gn ++ rs) H' Ho' → OLo P K Ho' u ys gn → Q u H') : LcG g tt te vs σ Q J H := by
  intro Dn hD
  obtain ⟨hsz, hw⟩ := hw
  refine ⟨fun i m H => m = xs.length - i ∧ i ≤ xs.length ∧ ∃ (Ho' : Hp) (acc : List β) (acs : List V) (gs : List Grp), Same Ho Ho' ∧ Zs (((Dn, HO.lst acs) :: gs.flatten) ++ rs) H Ho' ∧ RowO (P K Ho') acs acc gs ∧ acs.length ≤ i ∧ (comp (xs.drop i) acc (fun _ => W.ret true) cf).run fun ys => (f ys).run Φ,
    ⟨xs.length, by simp, Nat.zero_le _, Ho, [], [], [], Same.refl _, z.root hD, .nil, Nat.le_refl _, hw⟩, ?_⟩
  rintro i m H ⟨rfl, hi, Ho', acc, acs, gs, e', z', da, la, hw⟩
  have tr := T i _ H Ho' e' z' fun r hrr => List.mem_append_right _ (hr r hrr)
  by_cases hlt : i < xs.length
  · refine .inr ?_
    have hxi := List.getElem?_eq_getElem hlt
    obtain ⟨go, yl⟩ := tr.1 _ hxi
    refine ⟨go, fun H' => ∃ (Ho' : Hp) (acc : List β) (acs : List V) (gs : List Grp), Same Ho Ho' ∧ Zs (((Dn, HO.lst acs) :: gs.flatten) ++ rs) H' Ho' ∧ RowO (P K Ho') acs acc gs ∧ acs.length ≤ i + 1 ∧ (comp (xs.drop (i + 1)) acc (fun _ => W.ret true) cf).run fun ys => (f ys).run Φ,
      fun H' hN => ⟨xs.length - (i + 1), by omega, rfl, hlt, hN⟩, fun x H' y => ?_⟩
    obtain ⟨Ho2, e2, z2, dx⟩ := yl x H' y
    rw [drop_cons hxi] at hw
    have hw : (cf xs[i]).run fun y => (comp (xs.drop (i + 1)) (acc ++ [y]) (fun _ => W.ret true) cf).run fun ys => (f ys).run Φ := hw.1 rfl
    refine hx ((Dn, HO.lst acs) :: gs.flatten) _ x H' Ho2 _ _ (e'.trans e2) (z2 _ z') dx ?_
    refine W.mono _ _ _ (fun y hy w gi H'' Ho'' e3 z3 dw => ?_) hw
    have z4 : Zs ((Dn, HO.lst acs) :: (gi ++ (gs.flatten ++ rs))) H'' Ho'' := z3.perm List.perm_middle
    refine ⟨acs, z4.head, by omega, Ho'', acc ++ [y], acs ++ [w], gs ++ [gi], (e'.trans e2).trans e3, ?_, (da.imp fun v x g h => OwnD.mo h (e2.trans e3)).snoc dw, ?_, hy⟩
    · refine z4.put.perm (List.Perm.cons _ ?_)
      rw [List.flatten_append, List.flatten_singleton, ← List.append_assoc]
      exact List.perm_append_comm.append_right _
    · rw [List.length_append]
      exact Nat.succ_le_succ la
  · have e : i = xs.length := by omega
    subst e
    refine .inl ⟨tr.2 (Nat.le_refl _), ?_⟩
    rw [List.drop_length] at hw
    exact k acc (.ref Dn) _ H Ho' e' hw z' ⟨Dn, acs, gs, rfl, da, rfl⟩
end
/-! ### one of several lists, picked -/
inductive LVs {α : Type} [Py α] (K : PySem.W.Frag) (R : Grp) (Ho : Hp) : List V → List (List α) → Prop
  | nil : LVs K R Ho [] []
  | cons {v : V} {x : List α} {vs : List V} {xs : List (List α)} (h : LV K R Ho v x) (t : LVs K R Ho vs xs) : LVs K R Ho (v :: vs) (x :: xs)
section
variable {K : PySem.W.Frag} {H Ho Ho' : Hp} {R rs : Grp} {v w : V} {α γ : Type} [Py α] {Φ : γ → Prop} {Q : VK} {vs : List V} {xss : List (List α)}
theorem LVs.get : ∀ {vs : List V} {xss : List (List α)} {i : Nat} {x : List α}, LVs K R Ho vs xss → xss[i]? = some x → ∃ v, vs[i]? = some v ∧ LV K R Ho v x
  | _, _, i, _, .nil, e => by simp at e
  | _, _, 0, _, .cons a t, e => by cases e; exact ⟨_, rfl, a⟩
  | _, _, i + 1, _, .cons a t, e => t.get (i := i) (by simpa using e)
theorem LVs.len : ∀ {vs : List V} {xss : List (List α)}, LVs K R Ho vs xss → vs.length = xss.length
  | _, _, .nil => rfl
  | _, _, .cons a t => by simp [t.len]
theorem LVs.mo (e : Same Ho Ho') : ∀ {vs : List V} {xss : List (List α)}, LVs K R Ho vs xss → LVs K R Ho' vs xss
  | _, _, .nil => .nil
  | _, _, .cons a t => .cons (a.mo e) (t.mo e)
def Pick {α : Type} [Py α] (K : PySem.W.Frag) (R : Grp) (Ho : Hp) (v : V) (xss : List (List α)) (g : Grp) : Prop := ∃ p vs, v = .ref p ∧ LVs K R Ho vs xss ∧ g = [(p, HO.lst vs)]
theorem k_lstP (z : Zs R H Ho) (l : LVs K R Ho vs xss) (hl : vs.length ≤ sizeLine) (k : ∀ p g H', Zs (g ++ R) H' Ho → Pick K R Ho (.ref p) xss g → Q (.ref p) H') : LstK Q vs H := ⟨hl, fun p hp => k p _ _ (z.root hp) ⟨p, vs, rfl, l, rfl⟩⟩
theorem y_ixPk {i : Int} {g : Grp} {f : List α → W γ} (h : Pick K R Ho v xss g) (m : ∀ r ∈ g, r ∈ rs) (z : Zs rs H Ho) (hw : (W.bind (W.opt (atI xss i)) f).run Φ) (k : ∀ t u, LV K R Ho u t → (f t).run Φ → Q u H) : rIxL K v (.int i) H Q := by
  obtain ⟨x, ex, hw⟩ := hw
  obtain ⟨p, vs, rfl, l, rfl⟩ := h
  obtain ⟨j, ej, hx⟩ := at_ix ex
  obtain ⟨u, hu, lu⟩ := l.get hx
  refine ⟨p, vs, i, u, rfl, rfl, SqL.of (z.rt _ (m _ List.mem_cons_self)).1, ?_, k x u lu hw⟩
  rw [← l.len] at ej
  rw [ix_at ej, hu]
theorem c_unlR2 {β δ : Type} [Py β] [Py δ] {σ : L2.St} {i j : Nat} {x : V} {QS : L2.St → Hp → Prop} {a : α} {b : β} {c : δ} (σ' : V → V → L2.St) (hσ : ∀ v u, (σ.set i (some v)).set j (some u) = σ' v u) (d : Z.D K Ho x a) (hx : toPy a = .list [toPy b, toPy c]) (z : Zs rs H Ho)
    (k : ∀ v u, Z.D K Ho v b → Z.D K Ho u c → QS (σ' v u) H) : gUnl K 2 (gCons (gName i) (gCons (gName j) gNil)) x σ H QS := by
  have d : Dq K Ho x (toPy a) := d
  rw [hx] at d
  cases d with
  | lst hs ha =>
    cases ha with
    | cons h1 h2 =>
      cases h2 with
      | cons h2 h3 =>
        cases h3
        exact ⟨_, _, rfl, z.le.seq hs, rfl, _, _, rfl, _, _, rfl, rfl, by rw [hσ]; exact k _ _ h1 h2⟩
end
/-! ### None, told of data of any kind -/
def pyNone : PyData → Bool
  | .none => true
  | _ => false
theorem dec_nonP {K : PySem.W.Frag} {Ho : Hp} {v : V} {x : PyData} (d : Z.D K Ho v x) : decide (v = V.non) = pyNone x := by
  have d : Dq K Ho v x := d
  cases d <;> first | rfl | exact decide_eq_false (fun e => by cases e)
/-! ### methods of instances that stand for good; lists whose places are fields -/
section
variable {K : PySem.W.Frag} {H Ho : Hp} {rs R : Grp} {v w : V} {Q : VK} {QH : Hp → Prop} {q a : Addr} {cn m : Str} {ns : List Str} {G : V → Hp → Prop} {vs : List V} {i : Int} {j : Nat}
theorem o_metD {α : Type} [Py α] {x : α} {ds : List PyData} (c : CF K q cn ns) (d : Z.D K Ho v x) (hx : toPy x = pyIns cn ns ds) (z : Zs rs H Ho) (hn : m ∉ ns) (k : G v H) : MetK q m G v H := by
  obtain ⟨a, C, dx, vs, rfl, hC, hs, ha⟩ := dq_ins d hx
  obtain rfl := c.eq hC
  exact ⟨a, dx, _, rfl, z.le _ _ hs, lk_none hn, k⟩
theorem lr_ix (hm : ∀ r ∈ ([(a, HO.lst vs)] : Grp), r ∈ rs) (z : Zs rs H Ho) (h : atI vs i = some v) (k : Q v H) : rIxL K (.ref a) (.int i) H Q :=
  ⟨a, vs, i, v, rfl, rfl, SqL.of (z.rt _ (hm _ List.mem_cons_self)).1, h, k⟩
theorem lr_ixD {α β : Type} [Py α] [Py β] {x : α} {y : β} {ds : List PyData} (d : Z.D K Ho v x) (hx : toPy x = .list ds) (h : atI ds i = some (toPy y)) (z : Zs rs H Ho) (k : ∀ u, Z.D K Ho u y → Q u H) : rIxL K v (.int i) H Q := by
  have d : Dq K Ho v (toPy x) := d
  rw [hx] at d
  cases d with
  | lst hs ha =>
    obtain ⟨u, hu, du⟩ := atI_dqG ha h
    exact ⟨_, _, i, u, rfl, rfl, z.le.seq hs, hu, k u du⟩
theorem lr_st (z : Zs ([(a, HO.lst vs)] ++ R) H Ho) (h : ixN vs.length i = some j) (k : ∀ H', Zs ([(a, HO.lst (vs.set j w))] ++ R) H' Ho → QH H') : rSetL (.ref a) (.int i) w H QH :=
  ⟨a, vs, i, j, rfl, rfl, Zs.head z, h, k _ (Zs.put z)⟩
theorem k_lstR (z : Zs R H Ho) (hl : vs.length ≤ sizeLine) (k : ∀ p H', Zs ([(p, HO.lst vs)] ++ R) H' Ho → Q (.ref p) H') : LstK Q vs H := ⟨hl, fun p hp => k p _ (z.root hp)⟩
theorem zop_inT {X : Cx} (hK : X.K = K) : OpR X (compareOp .In) (rIn K false) := hK ▸ op_in_seq
theorem inV_strs {a : Str} : ∀ {ss : List Str}, inV (.str a) (ss.map V.str) = decide (a ∈ ss)
  | [] => by simp [inV]
  | s :: ss => by
    have ih := inV_strs (a := a) (ss := ss)
    unfold inV at ih ⊢
    rw [List.map_cons, List.any_cons, ih]
    have e : eqV (.str s) (.str a) = decide (s = a) := rfl
    rw [e]
    by_cases c : s = a
    · subst c; simp
    · have : a ≠ s := fun e => c e.symm
      simp [c, this]
theorem flat_strs : ∀ {ss : List Str}, (ss.map V.str).all flatV = true
  | [] => rfl
  | s :: ss => by rw [List.map_cons, List.all_cons, flat_strs]; rfl
theorem dq_strs {H : Hp} : ∀ {vs : List V} {ss : List Str}, DqAll K H vs (ss.map PyData.str) → vs = ss.map V.str
  | [], [], _ => rfl
  | [], _ :: _, h => by cases h
  | _ :: _, [], h => by cases h
  | v :: vs, s :: ss, h => by
    cases h with
    | cons h1 h2 =>
      cases h1
      rw [dq_strs h2]; rfl
theorem y_inT {α : Type} [Py α] {x : α} {a : Str} {ss : List Str} (d : Z.D K Ho w x) (hx : toPy x = .tuple (ss.map .str)) (z : Zs rs H Ho) (k : Q (.bl (decide (a ∈ ss))) H) : rIn K false (.str a) w H Q := by
  have d : Dq K Ho w (toPy x) := d
  rw [hx] at d
  cases d with
  | tup hs ha =>
    rw [dq_strs ha] at hs
    refine ⟨_, _, rfl, .inr (SqT.of (z.le _ _ hs)), rfl, flat_strs, ?_⟩
    rw [if_neg Bool.false_ne_true, inV_strs]
    exact k
/-! self.f += n -/
def FAugK (K : PySem.W.Frag) (tv : TE) (rd : V → V → Hp → VK → Prop) (f : Str) (N : Hp → Prop) (σ : L2.St) (x : V) (H1 : Hp) : Prop := ∃ a C dx fs v, x = .ref a ∧ H1 a = some (.ins C dx fs) ∧ Cls K C ∧ NoAttr K C f ∧ fs.lookup f = some v ∧
  tv σ H1 fun y H2 => rd v y H2 fun z H3 => ∃ dx' fs', H3 a = some (.ins C dx' fs') ∧ fs'.length < 1000 ∧ N (upd H3 a (.ins C dx' (putF f z fs')))
theorem zps_fldaug {X : Cx} {ta tv : TE} {op : Operator} {rd : V → V → Hp → VK → Prop} {o value : Expr} {f : Str} {pos tpos : Pos} (hK : X.K = K) (ha : PE X o ta) (hv : PE X value tv) (hop : InOp X op rd) : PS X (.AugAssign (.Attribute o f tpos) op value pos) (sFldAug K ta tv rd f) := hK ▸ ps_fldaug ha hv hop
theorem y_fldaug {ta tv : TE} {rd : V → V → Hp → VK → Prop} {f : Str} {u : TS} {D : Ends} {σ : L2.St} (k : ta σ H fun x H1 => FAugK K tv rd f (fun H' => u D σ H') σ x H1) : tSeq (sFldAug K ta tv rd f) u D σ H := k
theorem o_faug {σ : L2.St} {N : Hp → Prop} {f : Str} {dx : Addr} {n m : Int} (c : CF K q cn ns) (z : Zs ([(a, HO.ins q dx (ns.zip vs))] ++ R) H Ho) (hn : ns[j]? = some f) (hv : vs[j]? = some (.int n)) (k : ∀ H', Zs ([(a, HO.ins q dx (ns.zip (vs.set j (.int (n + m)))))] ++ R) H' Ho → N H') :
    FAugK K (tC (.int m)) rAdd f N σ (.ref a) H := by
  have hf := List.mem_of_getElem? hn
  refine ⟨a, q, dx, _, .int n, rfl, Zs.head z, c.cl, c.na f hf, lk_zip c.nd hn hv, ?_⟩
  refine ⟨n, m, rfl, rfl, dx, _, Zs.head z, len_zip_few c, ?_⟩
  rw [put_zip c.nd hn (List.getElem?_eq_some_iff.mp hv).1]
  exact k _ (Zs.put z)
theorem l_any2 {G : V → Prop} (k : G v) : LetV G v := k
/-- text.index(sign) -/
def sIdx (a b : Str) : Option Int := match Builtin.Str.occurrences a b 0 a.length 1 with
  | i :: _ => some (i : Int)
  | [] => none
def rSIdx : V → List V → Hp → VK → Prop := fun x xs H Q => ∃ a b i rest, x = .str a ∧ xs = [.str b] ∧ Builtin.Str.occurrences a b 0 a.length 1 = i :: rest ∧ Q (.int (i : Nat)) H
theorem zmt_sindex {X : Cx} : MtR X "str.index" rSIdx := mt_sindex
theorem y_sindex {a b : Str} {γ : Type} {f : Int → W γ} {Φ : γ → Prop} (hw : (W.bind (W.opt (sIdx a b)) f).run Φ) (k : ∀ t, (f t).run Φ → Q (.int t) H) : rSIdx (.str a) [.str b] H Q := by
  obtain ⟨t, e, hw⟩ := hw
  unfold sIdx at e
  split at e
  · rename_i i rest h
    cases e
    exact ⟨a, b, i, rest, rfl, rfl, h, k _ hw⟩
  · cases e
end
end Z

/-! # classes whose __init__ has a default (None); zip of data of any kind -/
namespace L2
open PySem PySem.Spec PyProof.Rows
section
variable {P : Program} {w : World} {K : PySem.W.Frag} {mg : Str → Option Value} {base : Heap} {x qual : Str} {params : Arguments} {body : List Stmt} {scope : Scope} {dvs : List V} {kws : List (Str × V)} {f T : Addr} {fd : FuncData} {d : V} {a b c : Str}
theorem fund_mkN {st : Stmt} {oc : Value} {od an : Option Addr} {osl : Array (Option Value)} {kV doc pm cdv ct tc : Value} {td : Option Addr} {tn : Nat} {tsl : Array (Option Value)}
    (l : K.lookup f = some ⟨oc, od, .func (PySem.W.fnOf x qual (defArgs st) (defBody st) (defScope st) (.ref T) kV doc pm an cdv ct), osl⟩)
    (c : PySem.W.codeIn K cdv qual = true) (k : PySem.W.keepIn K (.ref f) = true) (t : K.lookup T = some ⟨tc, td, .seq #[.none] tn, tsl⟩) : FunD K x qual (defArgs st) (defBody st) (defScope st) [V.non] [] f (PySem.W.fnOf x qual (defArgs st) (defBody st) (defScope st) (.ref T) kV doc pm an cdv ct) :=
  ⟨⟨oc, od, _, kV, doc, pm, an, cdv, ct, osl, rfl, l, c, .inr ⟨by simp, T, _, [.none], tn, rfl, t, rfl, .cons rfl .nil⟩, .inl rfl⟩, k⟩
theorem FunD.posN {ps : List Str} (n : Nat) (hn : ps.length = n) (F : FunD K x qual params body scope [d] [] f fd)
    (h : ∀ (T : Addr) (kV doc pm : Value) (an : Option Addr) (cdv ct : Value) (us its : List Value), us.length = n → its.length = 1 →
      ∃ k, bindArgs (PySem.W.fnOf x qual params body scope (.ref T) kV doc pm an cdv ct) ⟨us, []⟩ = seqItems? (.ref T) >>= k ∧ k (some its.toArray) = pure (ps.zip (us ++ its.drop 1))) : Binds K fd ps [] := by
  obtain ⟨ds, r, hb⟩ := F.binds1 (ps := ps) n 1 (by simp) (by simp [hn]) h
  cases r
  exact hb
theorem FunD.dflN {ps : List Str} (n : Nat) (hn : ps.length = n + 1) (F : FunD K x qual params body scope [V.non] [] f fd)
    (h : ∀ (T : Addr) (kV doc pm : Value) (an : Option Addr) (cdv ct : Value) (us its : List Value), us.length = n → its.length = 1 →
      ∃ k, bindArgs (PySem.W.fnOf x qual params body scope (.ref T) kV doc pm an cdv ct) ⟨us, []⟩ = seqItems? (.ref T) >>= k ∧ k (some its.toArray) = pure (ps.zip (us ++ its.drop 0))) : Binds K fd ps [Value.none] := by
  obtain ⟨ds, r, hb⟩ := F.binds1 (ps := ps) n 0 (by simp) (by simp [hn]) h
  have : ds = [Value.none] := by
    cases r with
    | cons h t =>
      cases t
      cases h
      rfl
  rw [this] at hb
  exact hb
theorem FunD.kwN {ps : List Str} {b : Str} (n : Nat) (F : FunD K x qual params body scope [d] [] f fd)
    (h : ∀ (T : Addr) (kV doc pm : Value) (an : Option Addr) (cdv ct : Value) (us its ws : List Value), us.length = n → its.length = 1 → ws.length = 1 →
      ∃ k, bindArgs (PySem.W.fnOf x qual params body scope (.ref T) kV doc pm an cdv ct) ⟨us, [b].zip ws⟩ = seqItems? (.ref T) >>= k ∧ k (some its.toArray) = pure (ps.zip (us ++ ws))) :
    KBn K fd ps n [b] (fun us ws => us ++ ws) (fun vs zs => vs ++ zs) := by
  obtain ⟨oc, od, dV, kV, doc, pm, an, cdv, ct, osl, rfl, lk, hcd, hD, hK⟩ := F.ex
  rcases hD with ⟨e, _⟩ | ⟨_, T, o, its, m, rfl, lT, oT, rT⟩
  · cases e
  · refine ⟨fun s us ws X l1 l2 => ?_, fun r1 r2 => r1.append r2⟩
    obtain ⟨k, e1, e2⟩ := h T kV doc pm an cdv ct us its ws l1 rT.length.symm l2
    refine BindsTo.of_looks fun M => ?_
    rw [e1]
    exact looks_items X lT oT (.of_pure e2)
end
end L2
namespace Z
open PySem PySem.Spec PyProof.Rows L2
def tMakeSd (C : Addr) (sp : Sp) (dvs : List V) (E : L2.St → XK) (t : TA) : TE := fun σ H Q => t σ H fun vs H1 => MkK C (fun x H2 => sp (x :: (vs ++ dvs)) H2 (fun v H3 => v = .non ∧ Q x H3) (E σ)) H1
def tMakeNS (C : Addr) (sp : Sp) (E : L2.St → XK) (t tk : TA) (n m : Nat) : TE := fun σ H Q => t σ H fun vs H1 => tk σ H1 fun zs H2 => vs.length = n ∧ zs.length = m ∧ MkK C (fun x H3 => sp (x :: (vs ++ zs)) H3 (fun v H4 => v = .non ∧ Q x H4) (E σ)) H2
section
variable {X : Cx} {CX : CXT} {k n : Nat} {f C : Addr} {fd : FuncData} {ps ks : List Str} {sp : Sp} {E : L2.St → XK} {x m : Str} {p pos apos : Pos} {e o : Expr} {es : List Expr} {kws : List Keyword} {ta : TE} {t tk : TA} {ds : List Value} {dvs : List V}
theorem run_makeSd {pins : List (Addr × Obj)} {σ : L2.St} {H : Hp} {s : Shared} {Q : VK} {us : List Value} {vs : List V} (M : Mk X.K C f) (F : FnOk X.prog X.w X.K X.mg X.base CX k f fd ps sp) (hr : Room (k + 1) X.A) (hb : Binds X.K fd ps ds) (hd : Vals dvs ds)
    (hx : PassesAt CX X σ (E σ)) (I : Inv X pins σ H s) (r : Vals vs us) (h : MkK C (fun x H2 => sp (x :: (vs ++ dvs)) H2 (fun v H3 => v = .non ∧ Q x H3) (E σ)) H) :
    wpAny (model X.prog X.w) X.A (call (.ref C) us) (EP X pins σ Q) X.xe s := by
  have hq := h (s.heap.objs.size + 1) s.heap.objs.size (I.hok.fresh (Nat.le_succ _)) (I.hok.fresh (Nat.le_refl _)) (Nat.ne_of_lt (Nat.lt_succ_self _))
  have I2 := Inv.made (C := C) I
  have r2 : Vals (V.ref (s.heap.objs.size + 1) :: (vs ++ dvs)) (Value.ref (s.heap.objs.size + 1) :: us ++ ds) := .cons rfl (r.append hd)
  have hl : (Value.ref (s.heap.objs.size + 1) :: us ++ ds).length = ps.length := by
    have e := r2.length
    rw [F.len _ _ _ _ hq] at e
    exact e.symm
  have hb' := hb _ (Value.ref (s.heap.objs.size + 1) :: us) I2.kIn hl
  refine wpAny_call (make_map (f := f) I.kIn M.makes M.init (beq_iff_eq.mp M.fn) (codeAny_mono (F.run _ X.stack _ _ ⟨Value.ref (s.heap.objs.size + 1) :: us, []⟩ (Value.ref (s.heap.objs.size + 1) :: us ++ ds) _ _ (E σ) (hr.make C us [])
    (I2.env0.make C us []) hb' r2 hq) fun r s' hq' => ?_))
  cases r with
  | error e => exact hx pins _ _ e s' I2 hq'
  | ok fl =>
    cases fl with
    | ret u =>
      obtain ⟨v, H', I3, rv, ev, q3⟩ := I2.after hq'
      subst ev
      exact ⟨rv, ⟨V.ref (s.heap.objs.size + 1), H', I3, rfl, q3⟩⟩
    | next => exact False.elim hq'
    | brk => exact False.elim hq'
    | cont => exact False.elim hq'
theorem pe_makeSd (M : Mk X.K C f) (F : FnOk X.prog X.w X.K X.mg X.base CX k f fd ps sp) (hr : Room (k + 1) X.A) (hg : Gl X x) (hm : X.mg x = some (.ref C)) (hb : Binds X.K fd ps ds) (hd : Vals dvs ds) (hx : ∀ σ, PassesAt CX X σ (E σ))
    (ha : PA X (e :: es) t) (hdb : (x == ("__debug__" : Str)) = false := by decide) (he : starEach (e :: es) X.env = (false, eval e X.env) :: starEach es X.env := by rfl) (hpl : (backTo pos (starEach es X.env)).any (·.1) = false := by rfl) :
    PE X (.Call (.Name x p) (e :: es) [] pos) (tMakeSd C sp dvs E t) := by
  refine ⟨fun pins s σ H Q I h => ?_⟩
  refine wpAny_Call_Name_kw (ld_glob I hg hm ?_ hdb)
  refine PySem.W.callWith_K (h₀ := X.base) I.ok.mod.kin M.kp (thn (ha.run pos pins s σ H _ I h) fun us s1 ⟨vs, H1, I1, r, q⟩ => ⟨I1.kIn, ?_⟩) he hpl
  exact run_makeSd M F hr hb hd (hx σ) I1 r q
theorem run_makeNS {pins : List (Addr × Obj)} {σ : L2.St} {H : Hp} {s : Shared} {Q : VK} {us ws : List Value} {vs zs : List V} (M : Mk X.K C f) (F : FnOk X.prog X.w X.K X.mg X.base CX k f fd ps sp) (hr : Room (k + 1) X.A) (hb : KBn X.K fd ps (n + 1) ks (fun us ws => us ++ ws) (fun vs zs => vs ++ zs))
    (hx : PassesAt CX X σ (E σ)) (I : Inv X pins σ H s) (r : Vals vs us) (rz : Vals zs ws) (l1 : vs.length = n) (l2 : zs.length = ks.length) (h : MkK C (fun x H3 => sp (x :: (vs ++ zs)) H3 (fun v H4 => v = .non ∧ Q x H4) (E σ)) H) :
    wpAny (model X.prog X.w) X.A (call (.ref C) us (ks.zip ws)) (EP X pins σ Q) X.xe s := by
  have hq := h (s.heap.objs.size + 1) s.heap.objs.size (I.hok.fresh (Nat.le_succ _)) (I.hok.fresh (Nat.le_refl _)) (Nat.ne_of_lt (Nat.lt_succ_self _))
  have I2 := Inv.made (C := C) I
  have r1 : Vals (V.ref (s.heap.objs.size + 1) :: vs) (Value.ref (s.heap.objs.size + 1) :: us) := .cons rfl r
  have r2 := hb.rel r1 rz
  have e1 : (Value.ref (s.heap.objs.size + 1) :: us).length = n + 1 := r1.length.symm.trans (congrArg Nat.succ l1)
  have e2 : ws.length = ks.length := rz.length.symm.trans l2
  refine wpAny_call (make_map (f := f) I.kIn M.makes M.init (beq_iff_eq.mp M.fn) (codeAny_mono (F.run _ X.stack _ _ ⟨Value.ref (s.heap.objs.size + 1) :: us, ks.zip ws⟩ ((Value.ref (s.heap.objs.size + 1) :: us) ++ ws) _ _ (E σ) (hr.make C us (ks.zip ws))
    (I2.env0.make C us (ks.zip ws)) (hb.to _ (Value.ref (s.heap.objs.size + 1) :: us) ws I2.kIn e1 e2) r2 hq) fun r s' hq' => ?_))
  cases r with
  | error e => exact hx pins _ _ e s' I2 hq'
  | ok fl =>
    cases fl with
    | ret u =>
      obtain ⟨v, H', I3, rv, ev, q3⟩ := I2.after hq'
      subst ev
      exact ⟨rv, ⟨V.ref (s.heap.objs.size + 1), H', I3, rfl, q3⟩⟩
    | next => exact False.elim hq'
    | brk => exact False.elim hq'
    | cont => exact False.elim hq'
theorem pe_makeNS (M : Mk X.K C f) (F : FnOk X.prog X.w X.K X.mg X.base CX k f fd ps sp) (hr : Room (k + 1) X.A) (hg : Gl X x) (hm : X.mg x = some (.ref C)) (hb : KBn X.K fd ps (n + 1) ks (fun us ws => us ++ ws) (fun vs zs => vs ++ zs)) (hx : ∀ σ, PassesAt CX X σ (E σ))
    (ha : PA X (e :: es) t) (hkw : PK X kws tk) (hall : (backToKw pos (keywordEach kws X.env)).all (·.1.isSome) = true := by rfl) (hks : (backToKw pos (keywordEach kws X.env)).filterMap (·.1) = ks := by rfl)
    (hdb : (x == ("__debug__" : Str)) = false := by decide) (he : starEach (e :: es) X.env = (false, eval e X.env) :: starEach es X.env := by rfl)
    (hpl : ((backTo pos (starEach (e :: es) X.env)).any (·.1) || (backToKw pos (keywordEach kws X.env)).any (·.1.isNone)) = false := by rfl) :
    PE X (.Call (.Name x p) (e :: es) kws pos) (tMakeNS C sp E t tk n ks.length) := by
  refine ⟨fun pins s σ H Q I h => ?_⟩
  refine wpAny_Call_Name_kw (ld_glob I hg hm ?_ hdb)
  refine PySem.W.callWith_KW (h₀ := X.base) I.ok.mod.kin M.kp hall (thn (ha.run pos pins s σ H _ I h) fun us s1 ⟨vs, H1, I1, r, q⟩ => ?_) hpl he
  refine thn (hkw.run pos pins s1 σ H1 _ I1 q) fun ws s2 ⟨zs, H2, I2, rz, l1, l2, q2⟩ => ⟨I2.kIn, ?_⟩
  rw [hks]
  exact run_makeNS M F hr hb (hx σ) I2 r rz l1 l2 q2
end
section
variable {K : PySem.W.Frag} {H Ho : Hp} {rs : Grp} {v u : V} {Q : VK} {σ : L2.St} {C : Addr} {sp : Sp} {E : L2.St → XK} {t tk ts : TA} {dvs : List V} {n m : Nat} {R : It → Hp → Prop}
theorem y_makeD (k : t σ H fun vs H1 => MkK C (fun x H2 => sp (x :: (vs ++ dvs)) H2 (fun v H3 => v = .non ∧ Q x H3) (E σ)) H1) : tMakeSd C sp dvs E t σ H Q := k
theorem y_makeN (k : t σ H fun vs H1 => tk σ H1 fun zs H2 => vs.length = n ∧ zs.length = m ∧ MkK C (fun x H3 => sp (x :: (vs ++ zs)) H3 (fun v H4 => v = .non ∧ Q x H4) (E σ)) H2) : tMakeNS C sp E t tk n m σ H Q := k
/-! zip of two lists or two tuples of any kind -/
def pyZip : PyData → PyData → Option (List (PyData × PyData))
  | .list xs, .list ys => some (xs.zip ys)
  | .tuple xs, .tuple ys => some (xs.zip ys)
  | _, _ => none
def SrcZA (K : PySem.W.Frag) (R : It → Hp → Prop) (vs : List V) (H : Hp) : Prop := ∃ a b xs ys, vs = [.ref a, .ref b] ∧ ((SqL K H a xs ∧ SqL K H b ys ∧ R (Itz K a b) H) ∨ (SqT K H a xs ∧ SqT K H b ys ∧ R (RZ.ItzT K a b) H))
theorem k_iZipA (k : ts σ H fun vs H1 => SrcZA K R vs H1) : RZ.iZipA K ts σ H R := k
theorem zpi_zipA {X : Cx} {e e2 : Expr} {ta : TA} {p pos tpos : Pos} {elts : List Expr} {kk : Nat} (hK : X.K = K) (hg : Gl X "zip") (hm : X.mg "zip" = none) (ha : PA X [e, e2] ta)
    (hs : starEach [e, e2] X.env = (false, eval e X.env) :: starEach [e2] X.env := by rfl) (hpl : (backTo pos (starEach [e2] X.env)).any (·.1) = false := by rfl) :
    PI X (.Tuple elts kk tpos) (.Call (.Name "zip" p) [e, e2] [] pos) (RZ.iZipA K ta) := hK ▸ RZ.pi_zipA hg hm ha hs hpl
theorem trn_zipT {a b : Addr} {xs ys : List V} {ds es : List PyData} (ha : Ho a = some (.tup xs)) (hb : Ho b = some (.tup ys)) (da : DqAll K Ho xs ds) (db : DqAll K Ho ys es) : Trn K [] (RZ.ItzT K a b) (ds.zip es) Ho := by
  intro i rs' H' Ho' e z sub
  have sa : SqT K H' a xs := SqT.of (z.le _ _ (e _ _ ha))
  have sb : SqT K H' b ys := SqT.of (z.le _ _ (e _ _ hb))
  refine ⟨fun p hp => ?_, fun hl => ⟨xs, ys, sa, sb, ?_⟩⟩
  · obtain ⟨hx, hy⟩ := List.getElem?_zip_eq_some.mp hp
    obtain ⟨x, ex, dx⟩ := dpAll_get da hx
    obtain ⟨y, ey, dy⟩ := dpAll_get db hy
    refine ⟨⟨xs, ys, x, y, sa, sb, ex, ey⟩, fun t H'' yy => ?_⟩
    obtain ⟨T, x', y', rfl, hT, rfl, qx, qy⟩ := yy
    have e1 : x' = x := Option.some.inj ((qx _ sa).symm.trans ex)
    have e2 : y' = y := Option.some.inj ((qy _ sb).symm.trans ey)
    subst e1 e2
    have e3 : Same Ho' (upd Ho' T (.tup [x', y'])) := Same.new (z.free hT)
    exact ⟨_, e3, fun _ z => z.alloc hT, .tup upd_same (.cons (dp_mono e3 _ _ (dp_mono e _ _ dx)) (.cons (dp_mono e3 _ _ (dp_mono e _ _ dy)) .nil))⟩
  · rw [List.length_zip] at hl
    rw [dpAll_len da, dpAll_len db]
    omega
theorem py_list {xs : List PyData} (d : Z.D K Ho v (PyData.list xs)) : Z.D K Ho v xs := by
  have e : toPy xs = PyData.list xs := by
    show PyData.list (xs.map id) = _
    rw [List.map_id]
  show Dq K Ho v (toPy xs)
  rw [e]
  exact d
theorem k_srcZA {x y : PyData} {γ : Type} {f : List (PyData × PyData) → W γ} {Φ : γ → Prop} (d : Z.D K Ho v x) (d' : Z.D K Ho u y) (z : Zs rs H Ho) (hw : (W.bind (W.opt (pyZip x y)) f).run Φ) (k : ∀ J ps, Trn K [] J ps Ho → (f ps).run Φ → R J H) : SrcZA K R [v, u] H := by
  obtain ⟨ps, e, hw⟩ := hw
  unfold pyZip at e
  split at e
  · rename_i xs ys
    cases e
    have h1 : LV K [] Ho v xs := LV.of (py_list d)
    have h2 : LV K [] Ho u ys := LV.of (py_list d')
    obtain ⟨a, vs, rfl, d1, s1⟩ := id h1
    obtain ⟨b, us, rfl, d2, s2⟩ := id h2
    exact ⟨a, b, vs, us, rfl, .inl ⟨src_stay s1 (Same.refl _) z (fun r h => nomatch h), src_stay s2 (Same.refl _) z (fun r h => nomatch h), k _ _ (trn_zip h1 rfl h2 rfl) hw⟩⟩
  · rename_i xs ys
    cases e
    have d : Dq K Ho v (.tuple xs) := d
    have d' : Dq K Ho u (.tuple ys) := d'
    cases d with
    | tup ha da =>
      cases d' with
      | tup hb db =>
        exact ⟨_, _, _, _, rfl, .inr ⟨SqT.of (z.le _ _ ha), SqT.of (z.le _ _ hb), k _ _ (trn_zipT ha hb da db) hw⟩⟩
  · cases e
end
end Z

/-! # an error that is caught and kept: the rest of the block knows it -/
namespace L2
open PySem PySem.Spec PyProof.Rows
/-- what the clause wishes of an exception of the body, the rest of the block behind it -/
def wKeep (K : PySem.W.Frag) (c : Value) (i : Nat) (ts tr : Addr → Value → Option Addr → TS) (Wout : WX) (D : Ends) : WX := fun cls d σ H =>
  ∃ b, PySem.W.exmOne K cls c = some b ∧ (b = true → ∀ a, H a = none → ts a cls d { nx := fun σ' H' => tr a cls d D (σ'.set i none) H', rt := fun _ _ => False, bk := fun _ _ => False, ct := fun _ _ => False } (σ.set i (some (.ref a))) H) ∧
    (b = false → Wout cls d σ H)
section
variable {X : Cx} {pins : List (Addr × Obj)} {σ : St} {H : Hp} {s : Shared}
theorem Inv.keepS {a : Addr} {pn : List (Addr × Obj)} {pn' : List (Addr × Obj)} (I : Inv (X.suite a pn) pn' σ H s) (ok : X.Ok) : Inv (X.tr pn X.xe) pn' σ H s :=
  ⟨ok.toTry _ _, I.os, I.bare, I.base, I.loc, I.cell, I.free, I.freeC, I.pin, I.hok, I.len⟩
theorem Inv.unkeep {q : Addr × Obj} {pn' : List (Addr × Obj)} (I : Inv (X.tr (q :: (X.pn ++ pins)) X.xe) pn' σ H s) (ok : X.Ok) : Inv X pins σ H s :=
  ⟨ok, I.os, I.bare, I.base, I.loc, I.cell, I.free, I.freeC, fun p hp => I.pin p (List.mem_append_left _ (List.mem_cons_of_mem _ hp)), I.hok, I.len⟩
end
section
variable {X : Cx} {x n : Str} {c : Value} {i : Nat} {body suite rest : List Stmt} {b₀ : Stmt} {np pos pos' : Pos} {tb : WX → TS} {ts tr : Addr → Value → Option Addr → TS} {Wout : WX}
theorem pss_try_keep (hs : X.stack = X.env :: X.outer) (hf : X.env.frame = some X.env.locals) (hN : X.N.Nodup) (hi : X.N[i]? = some n) (hln : X.env.kindOf n = some .local) (hc : Names X x c) (tk : Takes X Wout)
    (hb : ∀ (W : WX) (pn : List (Addr × Obj)) (xe : Value → Shared → Prop), Takes (X.tr pn xe) W → PassesOwn (model X.prog X.w) X.A X.env xe → PSs (X.tr pn xe) body (tb W))
    (hsu : ∀ (a : Addr) (oe : Obj) (cls : Value) (d : Option Addr) (pn : List (Addr × Obj)), Zc cls d oe → (∃ vs, oe.data = .fields vs) → PSs (X.suite a ((a, oe) :: pn)) (b₀ :: suite) (ts a cls d))
    (hr : ∀ (a : Addr) (oe : Obj) (cls : Value) (d : Option Addr) (pn : List (Addr × Obj)), Zc cls d oe → (∃ vs, oe.data = .fields vs) → PSs (X.tr ((a, oe) :: pn) X.xe) rest (tr a cls d)) :
    PSs X (.Try body [.ExceptHandler (some (.Name x np)) (some n) (b₀ :: suite) pos'] [] [] pos :: rest) (fun D σ H => tb (wKeep X.K c i ts tr Wout D) { D with nx := fun _ _ => False } σ H) := by
  refine ⟨fun pins s σ H D I h => ?_⟩
  have ok := I.ok
  have hfr : X.A.frames = some (X.env :: X.outer) := by rw [ok.frames, hs]
  have hloc : Loc X.env.scope n := .inl hln
  suffices go : ∀ QQ : Flow → Shared → Prop, (∀ {s'}, wpAny (model X.prog X.w) X.A (execs rest X.env) (SP X pins D) X.xe s' → QQ .next s') → (∀ {s'}, SP X pins D .brk s' → QQ .brk s') → (∀ {s'}, SP X pins D .cont s' → QQ .cont s') → (∀ {u s'}, SP X pins D (.ret u) s' → QQ (.ret u) s') →
      wpAny (model X.prog X.w) X.A (exec (.Try body [.ExceptHandler (some (.Name x np)) (some n) (b₀ :: suite) pos'] [] [] pos) X.env) QQ X.xe s from
    wpAny_execs_cons (go _ (fun z => z) (fun z => z) (fun z => z) (fun z => z))
  intro QQ q_nx q_brk q_cont q_ret
  refine wpAny_Try_except ?_
  refine wpAny_mono ((hb (wKeep X.K c i ts tr Wout D) (X.pn ++ pins) (fun e s₁ => wpAny (model X.prog X.w) X.A (noteFrame e X.env) (fun _ s₂ => wpAny (model X.prog X.w) X.A (setFlight e none) (fun _ s₃ =>
    wpAny (model X.prog X.w) X.A (handleBy e X.env [.ExceptHandler (some (.Name x np)) (some n) (b₀ :: suite) pos']) QQ X.xe s₃) X.xe s₂) X.xe s₁) (fun u s' xx => ?_) PassesOwn.looking).run [] s σ H { D with nx := fun _ _ => False } (I.toTry _) h) (fun f s1 hsp => ?_) (fun e s1 he => he)
  · -- the catch
    obtain ⟨a, B, sI, pins', σ', H', cls, d, rfl, J', nb, up, sky, na, os, ag, b, hb1, hyes, hno⟩ := xx
    have J : Inv X pins σ' H' sI := J'.ofTry ok
    have sky' : Sky B (X.env :: X.outer) a (Zc cls d) X.env.locals s'.heap := by rw [← hs]; exact sky
    show wpAny (model X.prog X.w) X.A (noteFrame (.ref a) X.env) _ _ _
    refine Sky.land Zc.steady hfr hf sky' fun h3 fl3 up3 => ?_
    have J3 : Inv X pins σ' H' { s' with heap := h3 } := J.landed nb fl3.1 (up.trans up3) os ag
    obtain ⟨oe3, vs3, he3, hz3, hd3⟩ := fl3.there
    have notFr : ∀ {h : Heap} {o : Obj} {vs : Array Value}, h.FunFrames B (X.env :: X.outer) → h.get? a = some o → o.data = .fields vs → a ∉ frs (X.env :: X.outer) := fun {h o vs} ff e dd hm => by
      obtain ⟨_, o', e', hnf⟩ := ff.mem hm
      rw [e] at e'; cases e'
      exact hnf _ dd
    have nfr := notFr fl3.2.2.1 he3 hd3
    have nL : a ≠ X.env.locals := fun z => nfr (List.mem_filterMap.mpr ⟨X.env, List.mem_cons_self, by rw [hf, z]⟩)
    have nF : a ∉ X.fs := fun hm => by
      obtain ⟨e, he, q⟩ := List.mem_filterMap.mp hm
      exact nfr (List.mem_filterMap.mpr ⟨e, List.mem_cons_of_mem _ he, q⟩)
    have S3 := J3.suite he3 hd3 na nL nF
    refine wpAny_handleBy_cons (codeAny_handlers_test ?_) (by intro q; cases q)
    have LT : PySem.W.Looks (model X.prog X.w) h3 (typeOf (.ref a)) cls := fun A Q E s k q => wpAny_typeOf_ref (k _ _ he3) (by rw [hz3.1]; exact q)
    have LM := PySem.W.exm_one (M := model X.prog X.w) (J3.kIn) LT hb1
    have test : ∀ {Q : Value → Shared → Prop} {E : Value → Shared → Prop}, Q c { s' with heap := h3 } → wpAny (model X.prog X.w) (X.A.mark (some (.ref a))) (eval (.Name x np) X.env) Q E { s' with heap := h3 } := fun {Q E} q => by
      obtain ⟨hg, hdbg, hm | ⟨hm, hv, hnn⟩⟩ := hc
      · exact ld_glob (X := X.suite a ((a, oe3) :: (X.pn ++ pins))) S3 hg hm q hdbg
      · exact ld_blt (X := X.suite a ((a, oe3) :: (X.pn ++ pins))) S3 hg hm hv q hnn hdbg
    refine test (LM.here ?_)
    cases b with
    | true =>
      refine codeAny_handlers_suite_as ?_
      refine HandSPX.lands_againZ fl3 fun h4 fl4 up4 => ?_
      have J4 : Inv X pins σ' H' { s' with heap := h4 } := J.landed nb fl4.1 ((up.trans up3).trans up4) os ag
      obtain ⟨oe4, vs4, he4, hz4, hd4⟩ := fl4.there
      have S4 := J4.suite he4 hd4 na nL nF
      refine store_ok (X := X.suite a ((a, oe4) :: (X.pn ++ pins))) (v := .ref a) S4 hN hi hloc rfl (fun s5 S5 => ?_) (.inr hln)
      refine wpAny_mono ((hsu a oe4 cls d (X.pn ++ pins) hz4 ⟨_, hd4⟩).run [] s5 _ H' _ S5 (hyes rfl a na)) (fun f s6 hsp => ?_) (fun _ _ z => False.elim z)
      have end_ : ∀ {σ6 : St} {H6 : Hp} {Q : Shared → Prop}, Inv (X.suite a ((a, oe4) :: (X.pn ++ pins))) [] σ6 H6 s6 → (∀ s7, Inv (X.tr ((a, oe4) :: (X.pn ++ pins)) X.xe) [] (σ6.set i none) H6 s7 → Q s7) →
          wpAny (model X.prog X.w) X.A (do bindName X.env n .none; unbindBehindTheSuite X.env n pos') (fun _ s7 => Q s7) X.xe s6 := fun {σ6 H6 Q} S6 hq => gone_ok (X := X.tr ((a, oe4) :: (X.pn ++ pins)) X.xe) (S6.keepS ok) hN hi hln hq
      cases f with
      | next =>
        obtain ⟨σ6, H6, S6, q6⟩ := hsp
        refine end_ S6 fun s7 J7 => q_nx ?_
        refine wpAny_mono ((hr a oe4 cls d (X.pn ++ pins) hz4 ⟨_, hd4⟩).run [] s7 _ H6 D J7 q6) (fun f s8 hsp => ?_) (fun _ _ z => z)
        cases f with
        | next => obtain ⟨σ8, H8, S8, q8⟩ := hsp; exact ⟨σ8, H8, S8.unkeep ok, q8⟩
        | brk => obtain ⟨σ8, H8, S8, q8⟩ := hsp; exact ⟨σ8, H8, S8.unkeep ok, q8⟩
        | cont => obtain ⟨σ8, H8, S8, q8⟩ := hsp; exact ⟨σ8, H8, S8.unkeep ok, q8⟩
        | ret u => obtain ⟨v8, σ8, H8, S8, r8, q8⟩ := hsp; exact ⟨v8, σ8, H8, S8.unkeep ok, r8, q8⟩
      | brk =>
        obtain ⟨σ6, H6, S6, q6⟩ := hsp
        exact q6.elim
      | cont =>
        obtain ⟨σ6, H6, S6, q6⟩ := hsp
        exact q6.elim
      | ret u =>
        obtain ⟨v6, σ6, H6, S6, r6, q6⟩ := hsp
        exact q6.elim
    | false =>
      show wpAny _ X.A (handleBy (.ref a) X.env []) _ _ _
      refine wpAny_handleBy_nil ?_
      obtain ⟨k1, k2, k3, oe, vs, T, oT, ts', he, hz, hd, h1, hr⟩ := id fl3
      unfold PySem.passOn
      refine wpAny_bind (wpAny_field he hd h1 ?_)
      rw [if_neg (show ¬ ((Value.ref T == Value.none) = true) from by simp)]
      have fin : wpAny (model X.prog X.w) X.A (setFlight (.ref a) X.env.frame) (fun _ s4 => wpAny (model X.prog X.w) X.A (throw (.ref a) : Sem Flow) QQ X.xe s4) X.xe { s' with heap := h3 } := by
        rw [hf]
        refine HandSPX.setFlight_upZ fl3 fun h4 hh4 up4 => wpAny_throw (tk _ _ ?_)
        exact ⟨a, B, sI, pins, σ', H', cls, d, rfl, J, nb, (up.trans up3).trans up4, .inr (.inr (by rw [hs]; exact hh4)), na, os, ag, hno rfl⟩
      first
        | exact wpAny_bind (wpAny_pure (wpAny_bind fin))
        | exact wpAny_bind fin
  · cases f with
    | next =>
      obtain ⟨σ', H', J', q⟩ := hsp
      exact q.elim
    | brk =>
      obtain ⟨σ', H', J', q⟩ := hsp
      exact q_brk ⟨σ', H', J'.ofTry ok, q⟩
    | cont =>
      obtain ⟨σ', H', J', q⟩ := hsp
      exact q_cont ⟨σ', H', J'.ofTry ok, q⟩
    | ret u =>
      obtain ⟨v, σ', H', J', r, q⟩ := hsp
      exact q_ret ⟨v, σ', H', J'.ofTry ok, r, q⟩
end
end L2
namespace Z
open PySem PySem.Spec PyProof.Rows L2
def tTryKeep (K : PySem.W.Frag) (c : Value) (i : Nat) (tb : WX → TS) (ts tr : Addr → Value → Option Addr → TS) (Wout : WX) : TS := fun D σ H => tb (wKeep K c i ts tr Wout D) { D with nx := fun _ _ => False } σ H
section
variable {X : Cx} {K : PySem.W.Frag} {x n : Str} {c : Value} {i : Nat} {body suite rest : List Stmt} {b₀ : Stmt} {np pos pos' : Pos} {tb : WX → TS} {ts tr : Addr → Value → Option Addr → TS} {Wout : WX}
theorem zpss_try_keep (hK : X.K = K) (hs : X.stack = X.env :: X.outer) (hf : X.env.frame = some X.env.locals) (hN : X.N.Nodup) (hi : X.N[i]? = some n) (hln : X.env.kindOf n = some .local) (hc : Names X x c) (tk : Takes X Wout)
    (hb : ∀ (W : WX) (pn : List (Addr × Obj)) (xe : Value → Shared → Prop), Takes (X.tr pn xe) W → PassesOwn (model X.prog X.w) X.A X.env xe → PSs (X.tr pn xe) body (tb W))
    (hsu : ∀ (a : Addr) (oe : Obj) (cls : Value) (d : Option Addr) (pn : List (Addr × Obj)), Zc cls d oe → (∃ vs, oe.data = .fields vs) → PSs (X.suite a ((a, oe) :: pn)) (b₀ :: suite) (ts a cls d))
    (hr : ∀ (a : Addr) (oe : Obj) (cls : Value) (d : Option Addr) (pn : List (Addr × Obj)), Zc cls d oe → (∃ vs, oe.data = .fields vs) → PSs (X.tr ((a, oe) :: pn) X.xe) rest (tr a cls d)) :
    PSs X (.Try body [.ExceptHandler (some (.Name x np)) (some n) (b₀ :: suite) pos'] [] [] pos :: rest) (tTryKeep K c i tb ts tr Wout) := hK ▸ pss_try_keep hs hf hN hi hln hc tk hb hsu hr
theorem inst_atK {X : Cx} {pins : List (Addr × Obj)} {σ : L2.St} {H : Hp} {s : Shared} {a D : Addr} {oe : Obj} (hz : Zc (.ref D) none oe) (hf : ∃ vs, oe.data = .fields vs) (hm : (a, oe) ∈ X.pn) (I : Inv X pins σ H s) : PySem.W.InstAt s.heap a oe D none := by
  have hget := (I.pin (a, oe) (List.mem_append.mpr (.inl hm))).1
  obtain ⟨vs, hv⟩ := hf
  obtain ⟨oc, od, oda, osl⟩ := oe
  obtain ⟨h1, h2⟩ := hz
  dsimp only at h1 h2 hv
  subst h1 h2 hv
  exact ⟨hget, rfl, rfl, trivial⟩
theorem zisXk {a : Addr} {cls : Value} {d : Option Addr} {oe : Obj} {pn : List (Addr × Obj)} (hK : X.K = K) (hz : Zc cls d oe) (hf : ∃ vs, oe.data = .fields vs) (hp : X.pn = (a, oe) :: pn := by rfl) : CallR X (.builtin "isinstance") (rIsX K a cls d) := by
  subst hK
  intro pins s σ H xs us Q I r h
  obtain ⟨D, c, cv, b, rfl, rfl, rfl, hcv, C, e, q⟩ := h
  obtain ⟨u1, u2, rfl, r1, r2⟩ := vals2 r
  cases (show u1 = Value.ref a from r1)
  have ec := hcv.eq r2
  subst ec
  exact PySem.W.kia_one (PySem.W.handS_kitx_exc C.hg C.hk C.hs C.hd C.ha C.hn C.ht C.hm) I.kIn (inst_atK hz hf (by rw [hp]; exact List.mem_cons_self) I) e (fun z => nomatch z) fun tk => ⟨.bl b, H, I.tok tk, rfl, q⟩
theorem zisXTk {a : Addr} {cls : Value} {d : Option Addr} {oe : Obj} {pn : List (Addr × Obj)} (hK : X.K = K) (hz : Zc cls d oe) (hf : ∃ vs, oe.data = .fields vs) (hp : X.pn = (a, oe) :: pn := by rfl) : CallR X (.builtin "isinstance") (rIsXT K a cls d) := by
  subst hK
  intro pins s σ H xs us Q I r h
  obtain ⟨D, tp, cs, ws, b, rfl, rfl, rfl, hT, k, C, e, q⟩ := h
  obtain ⟨u1, u2, rfl, r1, r2⟩ := vals2 r
  cases (show u1 = Value.ref a from r1)
  cases (show u2 = Value.ref tp from r2)
  obtain ⟨_, its, rv, o, h1, h2, n, h3⟩ := (show ObjOk X.prog X.w H s.heap tp (.tup cs) from I.hok tp _ hT)
  have e3 := ClsV.all k rv
  subst e3
  obtain ⟨oc, od, dt, sl⟩ := o
  simp only at h2 h3
  subst h2 h3
  exact PySem.W.kia_tup (PySem.W.handS_kitx_exc C.hg C.hk C.hs C.hd C.ha C.hn C.ht C.hm) I.kIn (inst_atK hz hf (by rw [hp]; exact List.mem_cons_self) I) h1 e (fun z => nomatch z) fun tk => ⟨.bl b, H, I.tok tk, rfl, q⟩
end
section
variable {K : PySem.W.Frag} {H Ho : Hp} {rs : List (Addr × HO)} {σ : L2.St} {γ : Type} {Φ : γ → Prop} {cl : Nat → Addr} {Wout : WX} {D : Ends} {i : Nat}
theorem y_tryK {S : Type} {c : Value} {cb : W (Ex S)} {cs : Er → W γ} {tb : WX → TS} {ts tr : Addr → Value → Option Addr → TS} {sub : Nat → Bool} (σ' : Addr → L2.St) (hm : ∀ n, PySem.W.exmOne K (.ref (cl n)) c = some (sub n)) (z : Zs rs H Ho)
    (hw : (W.exm cb (fun _ => W.bad) fun e => W.guard (sub e.cls = true) (cs e)).run Φ) (hσ : ∀ a, σ.set i (some (.ref a)) = σ' a)
    (hb : ∀ (Wx : WX), cb.run (ExP (fun _ => False) fun e => ∀ H' Ho', Same Ho Ho' → Zs rs H' Ho' → Wx (.ref (cl e.cls)) none σ H') → tb Wx { D with nx := fun _ _ => False } σ H)
    (hs : ∀ e a H' Ho', Same Ho Ho' → Zs rs H' Ho' → H' a = none → (cs e).run Φ →
      ts a (.ref (cl e.cls)) none { nx := fun σ' H' => tr a (.ref (cl e.cls)) none D (σ'.set i none) H', rt := fun _ _ => False, bk := fun _ _ => False, ct := fun _ _ => False } (σ' a) H') : tTryKeep K c i tb ts tr Wout D σ H := by
  refine hb _ (W.mono _ _ _ (fun r hr => ?_) (run_exm hw))
  cases r with
  | ok s => exact hr
  | er r =>
    refine fun H' Ho' e z' => ⟨true, by rw [hm, hr.1], fun _ a ha => ?_, fun q => nomatch q⟩
    rw [hσ]
    exact hs r a H' Ho' e z' ha hr.2
theorem y_keepE {P : L2.St → Hp → Prop} {r : V → Hp → Prop} {b c : L2.St → Hp → Prop} (σ2 : L2.St) (hσ : σ.set i none = σ2) (k : P σ2 H) : tNext { nx := fun σ' H' => P (σ'.set i none) H', rt := r, bk := b, ct := c } σ H := by
  show P (σ.set i none) H
  rw [hσ]; exact k
end
end Z

/-! # a parameter that is None or a list that is lent -/
namespace Z
open PySem PySem.Spec PyProof.Rows L2
section
variable {K : PySem.W.Frag} {H Ho Ho' : Hp} {rs rs' : List (Addr × HO)} {α : Type} [Py α] {v : V}
def OVq (K : PySem.W.Frag) (rs : List (Addr × HO)) (Ho : Hp) (v : V) (x : Option (List α)) : Prop := match x with
  | none => v = .non
  | some xs => LV K rs Ho v xs
theorem OVq.non : OVq K rs Ho .non (none : Option (List α)) := rfl
theorem OVq.some {xs : List α} (h : LV K rs Ho v xs) : OVq K rs Ho v (some xs) := h
theorem OVq.mo {x : Option (List α)} (h : OVq K rs Ho v x) (e : Same Ho Ho') : OVq K rs Ho' v x := by
  cases x with
  | none => exact h
  | some xs => exact LV.mo h e
theorem OVq.sub {x : Option (List α)} (h : OVq K rs Ho v x) (e : ∀ r ∈ rs, r ∈ rs') : OVq K rs' Ho v x := by
  cases x with
  | none => exact h
  | some xs => exact LV.sub h e
theorem OVq.ofD {x : Option (List α)} (d : Z.D K Ho v x) : OVq K rs Ho v x := by
  cases x with
  | none =>
    have d : Dq K Ho v .none := d
    cases d; rfl
  | some xs => exact LV.of d
theorem OVq.rd {x : Option (List α)} (h : OVq K rs Ho v x) (z : Zs rs' H Ho) (m : ∀ r ∈ rs, r ∈ rs') : Z.D K H v x := by
  cases x with
  | none =>
    cases (show v = .non from h)
    exact Dq.non
  | some xs =>
    obtain ⟨p, vs, rfl, d, s⟩ := LV.rd (LV.sub h m) z
    exact Dq.lst s (DL.mo d z.le)
theorem k_lstO {β : Type} {P : OwnPred β} {R : Grp} {Q : VK} {vs : List V} {xs : List β} {gs : List Grp} (r : RowO (P K Ho) vs xs gs) (z : Zs (gs.flatten ++ R) H Ho) (hl : vs.length ≤ sizeLine) (k : ∀ p g H', Zs (g ++ R) H' Ho → OLo P K Ho (.ref p) xs g → Q (.ref p) H') : LstK Q vs H :=
  ⟨hl, fun p hp => k p _ _ (z.root hp) ⟨p, vs, gs, rfl, r, rfl⟩⟩
end
section
variable {H : Hp} {σ : L2.St} {D : Ends} {u : TS} {ta : TA} {i j l : Nat} {a b c : V}
def Par3 (G : V → V → V → Prop) (vs : List V) : Prop := ∃ a b c, vs = [a, b, c] ∧ G a b c
/-- a, b, c = x, y, z -/
theorem l_p3 (σ' : V → V → V → L2.St) (hσ : ∀ a b c, ((σ.set i (some a)).set j (some b)).set l (some c) = σ' a b c) (k : ta σ H fun vs H1 => Par3 (fun a b c => u D (σ' a b c) H1) vs) : tSeq (tPar3 i j l ta) u D σ H := by
  have e : (fun vs H1 => Par3 (fun a b c => u D (σ' a b c) H1) vs) = fun vs H1 => ∃ a b c, vs = [a, b, c] ∧ u D (((σ.set i (some a)).set j (some b)).set l (some c)) H1 := by
    funext vs H1
    unfold Par3
    simp only [hσ]
  rw [e] at k
  exact k
theorem l_p3k {G : V → V → V → Prop} (k : LetV (fun a => LetV (fun b => LetV (fun c => G a b c) c) b) a) : Par3 G [a, b, c] := ⟨a, b, c, rfl, k⟩
end
end Z

/-! # two items of an own list of own things, taken out at once -/
namespace Z
open PySem PySem.Spec PyProof.Rows L2
section
variable {K : PySem.W.Frag} {H Ho H' Ho' : Hp} {R : Grp} {v w u : V} {β γ : Type} [Py β] {Φ : γ → Prop}
/-- a list, two of whose items (i, j) are looked after elsewhere -/
def OLhh (P : OwnPred β) (i : Int) (u : V) (j : Int) (w : V) : OwnPred (List β) := fun K Ho v xs g => ∃ p vs gs a b, v = .ref p ∧ RowO (P K Ho) vs xs gs ∧ ixN xs.length i = some a ∧ ixN xs.length j = some b ∧ a ≠ b ∧ vs[a]? = some u ∧ vs[b]? = some w ∧ g = (p, HO.lst vs) :: ((gs.set a []).set b []).flatten
theorem OLhh.mo {P : OwnPred β} [OwnD P] {i j : Int} {xs : List β} {g : Grp} (h : OLhh P i u j w K Ho v xs g) (e : Same Ho Ho') : OLhh P i u j w K Ho' v xs g := by
  obtain ⟨p, vs, gs, a, b, rfl, r, q⟩ := h
  exact ⟨p, vs, gs, a, b, rfl, r.imp fun v x g h => OwnD.mo h e, q⟩
theorem elAt_of {P : OwnPred β} {xs : List β} {R' rs : Grp} {vs : List V} {p : Addr} {gs : List Grp} {i : Int} {a : Nat} (el : ElAt R' (.ref p) i u) (m : ∀ r ∈ R', r ∈ rs) (z : Zs rs H Ho) (r : RowO (P K Ho) vs xs gs) (hp : H p = some (HO.lst vs)) (ej : ixN xs.length i = some a) : vs[a]? = some u := by
  obtain ⟨p', vs', e1, m', e2⟩ := el
  cases e1
  have h3 := (z.rt _ (m _ m')).1
  have : vs' = vs := by
    have := h3.symm.trans hp
    cases this
    rfl
  subst this
  rw [← r.len.1] at ej
  rw [ix_at ej] at e2
  exact e2
theorem o_open2 {P : OwnPred β} {xs : List β} {i j : Int} {g R1 R2 : Grp} {f : β → β → W γ} {X : Prop} (o : OLo P K Ho v xs g) (z : Zs (g ++ R) H Ho) (el1 : ElAt R1 v i u) (m1 : ∀ r ∈ R1, r ∈ g ++ R) (el2 : ElAt R2 v j w) (m2 : ∀ r ∈ R2, r ∈ g ++ R)
    (hw : (W.bind (W.opt (atI xs i)) fun x => W.bind (W.opt (atI xs j)) fun y => W.guard (ixN xs.length i ≠ ixN xs.length j) (f x y)).run Φ)
    (k : ∀ x y gi gj gh, Zs (gi ++ (gj ++ (gh ++ R))) H Ho → OLhh P i u j w K Ho v xs gh → P K Ho u x gi → P K Ho w y gj → (f x y).run Φ → X) : X := by
  obtain ⟨x, ex, y, ey, ne, hw⟩ := hw
  obtain ⟨p, vs, gs, rfl, r, rfl⟩ := o
  obtain ⟨a, ea, hx⟩ := at_ix ex
  obtain ⟨b, eb, hy⟩ := at_ix ey
  have nab : a ≠ b := fun e => ne (by rw [ea, eb, e])
  have hp : H p = some (HO.lst vs) := (z.rt _ (List.mem_append_left _ List.mem_cons_self)).1
  have hu := elAt_of el1 m1 z r hp ea
  have hw' := elAt_of el2 m2 z r hp eb
  obtain ⟨u', gi, hu', hg, pu⟩ := r.get hx
  obtain ⟨w', gj, hw2, hg2, pw⟩ := r.get hy
  cases hu'.symm.trans hu
  cases hw2.symm.trans hw'
  have hg3 : (gs.set a [])[b]? = some gj := by rw [List.getElem?_set, if_neg nab, hg2]
  refine k x y gi gj ((p, HO.lst vs) :: ((gs.set a []).set b []).flatten) (z.perm ?_) ⟨p, vs, gs, a, b, rfl, r, ea, eb, nab, hu, hw', rfl⟩ pu pw hw
  show ((p, HO.lst vs) :: (gs.flatten ++ R)).Perm (gi ++ (gj ++ ((p, HO.lst vs) :: (((gs.set a []).set b []).flatten ++ R))))
  have e1 : (gs.flatten ++ R).Perm (gi ++ (gj ++ (((gs.set a []).set b []).flatten ++ R))) := by
    have := ((flat_at hg).trans ((flat_at hg3).append_left gi)).append_right R
    simpa only [List.append_assoc] using this
  refine (List.Perm.cons _ e1).trans ?_
  refine List.perm_middle.symm.trans ?_
  exact (List.perm_middle.symm).append_left gi
theorem o_fill2 {P : OwnPred β} {xs : List β} {i j : Int} {x y : β} {gi gj gh : Grp} {X : Prop} (oh : OLhh P i u j w K Ho v xs gh) (o1 : P K Ho u x gi) (o2 : P K Ho w y gj) (z : Zs (gi ++ (gj ++ (gh ++ R))) H Ho)
    (k : ∀ g, Zs (g ++ R) H Ho → OLo P K Ho v (setI (setI xs i x) j y) g → X) : X := by
  obtain ⟨p, vs, gs, a, b, rfl, r, ea, eb, nab, hu, hw, rfl⟩ := oh
  have hl := r.len
  have la := (List.getElem?_eq_some_iff.mp hu).1
  have lb := (List.getElem?_eq_some_iff.mp hw).1
  obtain ⟨ga, hga⟩ : ∃ g, gs[a]? = some g := ⟨_, List.getElem?_eq_getElem (by omega)⟩
  obtain ⟨gb, hgb⟩ : ∃ g, gs[b]? = some g := ⟨_, List.getElem?_eq_getElem (by omega)⟩
  refine k ((p, HO.lst vs) :: ((gs.set a gi).set b gj).flatten) (z.perm ?_) ⟨p, vs, (gs.set a gi).set b gj, rfl, ?_, rfl⟩
  · show (gi ++ (gj ++ ((p, HO.lst vs) :: (((gs.set a []).set b []).flatten ++ R)))).Perm ((p, HO.lst vs) :: (((gs.set a gi).set b gj).flatten ++ R))
    refine (List.perm_middle.append_left gi).trans (List.perm_middle.trans (List.Perm.cons _ ?_))
    have h1 : (gs.set a gi)[b]? = some gb := by rw [List.getElem?_set, if_neg nab, hgb]
    have h2 : (gs.set b [])[a]? = some ga := by rw [List.getElem?_set, if_neg (fun e => nab e.symm), hga]
    have p1 := flat_set (g' := gj) h1
    have p2 := flat_set (g' := gi) h2
    have e5 : (gs.set a gi).set b [] = (gs.set b []).set a gi := List.set_comm _ _ nab
    rw [e5] at p1
    have e3 : ((gs.set b []).set a []) = ((gs.set a []).set b []) := List.set_comm _ _ (fun e => nab e.symm)
    rw [e3] at p2
    have p3 := ((p1.trans (p2.append_left gj)).append_right R).symm
    refine List.Perm.trans ?_ p3
    simp only [List.append_assoc]
    exact List.perm_append_comm_assoc _ _ _
  · have e : setI (setI xs i x) j y = (xs.set a x).set b y := by
      have e1 : setI xs i x = xs.set a x := by unfold setI; rw [ea]
      rw [e1]
      unfold setI
      rw [List.length_set, eb]
    rw [e]
    exact (r.set hu o1).set hw o2
end
end Z

/-! # lists of lists that another holds; a tuple of a number and such a list; items of own lists read -/
namespace Z
open PySem PySem.Spec PyProof.Rows L2
section
variable {K : PySem.W.Frag} {H Ho H' Ho' : Hp} {R rs r0 g : Grp} {v w u v0 v1 : V} {α β γ : Type} [Py α] [Py β] {Φ : γ → Prop} {Q : VK}
def LLV (K : PySem.W.Frag) (R : Grp) (Ho : Hp) (v : V) (xss : List (List α)) : Prop := ∃ p vs, v = .ref p ∧ LVs K R Ho vs xss ∧ (SqL K Ho p vs ∨ (p, HO.lst vs) ∈ R)
theorem SqL.mo {p : Addr} {vs : List V} (s : SqL K Ho p vs) (e : Same Ho Ho') : SqL K Ho' p vs := e.seq s
theorem LLV.mo {xss : List (List α)} (h : LLV K R Ho v xss) (e : Same Ho Ho') : LLV K R Ho' v xss := by
  obtain ⟨p, vs, rfl, l, s⟩ := h
  exact ⟨p, vs, rfl, l.mo e, s.imp (fun s => SqL.mo s e) id⟩
theorem LVs.sub {R2 : Grp} (e : ∀ r ∈ R, r ∈ R2) : ∀ {vs : List V} {xss : List (List α)}, LVs K R Ho vs xss → LVs K R2 Ho vs xss
  | _, _, .nil => .nil
  | _, _, .cons a t => .cons (a.sub e) (t.sub e)
theorem LLV.sub {R2 : Grp} {xss : List (List α)} (h : LLV K R Ho v xss) (e : ∀ r ∈ R, r ∈ R2) : LLV K R2 Ho v xss := by
  obtain ⟨p, vs, rfl, l, s⟩ := h
  exact ⟨p, vs, rfl, l.sub e, s.imp id (e _)⟩
theorem lvs_ofD : ∀ {vs : List V} {xss : List (List α)}, DL K Ho vs xss → LVs K R Ho vs xss
  | [], [], _ => .nil
  | [], _ :: _, h => by cases h
  | _ :: _, [], h => by cases h
  | v :: vs, x :: xs, h => by
    cases h with
    | cons h1 h2 => exact .cons (LV.of h1) (lvs_ofD h2)
theorem LLV.ofD {xss : List (List α)} (d : Z.D K Ho v xss) : LLV K R Ho v xss := by
  have d : Dq K Ho v (.list (xss.map Py.toPy)) := d
  cases d with
  | lst hs ha => exact ⟨_, _, rfl, lvs_ofD ha, .inl hs⟩
theorem lvs_ofO : ∀ {vs : List V} {xss : List (List α)} {gs : List Grp}, RowO (fun v xs g => OL K Ho v xs g) vs xss gs → (∀ r ∈ gs.flatten, r ∈ R) → LVs K R Ho vs xss
  | _, _, _, .nil, _ => .nil
  | _, _, _, .cons a t, m => .cons (OL.lv a fun r h => m r (by rw [List.flatten_cons]; exact List.mem_append_left _ h)) (lvs_ofO t fun r h => m r (by rw [List.flatten_cons]; exact List.mem_append_right _ h))
theorem LLV.ofO {xss : List (List α)} (o : OLo (fun K Ho v xs g => OL (α := α) K Ho v xs g) K Ho v xss g) (m : ∀ r ∈ g, r ∈ R) : LLV K R Ho v xss := by
  obtain ⟨p, vs, gs, rfl, r, rfl⟩ := o
  exact ⟨p, vs, rfl, lvs_ofO r fun q h => m q (List.mem_cons_of_mem _ h), .inr (m _ List.mem_cons_self)⟩
theorem k_srcLL {RI : It → Hp → Prop} {xss : List (List α)} (h : LLV K r0 Ho v xss) (m : ∀ r ∈ r0, r ∈ rs) (z : Zs rs H Ho) (k : ∀ J, TrnP (fun Ho x a => LV K r0 Ho x a) r0 J xss Ho → RI J H) : SrcL K RI v H := by
  obtain ⟨p, vs, rfl, l, s⟩ := h
  have st : ∀ {rs' : Grp} {H' Ho' : Hp}, Same Ho Ho' → Zs rs' H' Ho' → (∀ r ∈ r0, r ∈ rs') → SqL K H' p vs := fun e z sub => src_stay s e z sub
  refine ⟨p, rfl, ⟨vs, st (Same.refl _) z m⟩, k _ ?_⟩
  intro i rs' H' Ho' e z' sub
  have sq := st e z' sub
  refine ⟨fun a ha => ?_, fun hl => ⟨vs, sq, by rw [l.len]; exact hl⟩⟩
  obtain ⟨u, hu, lu⟩ := l.get ha
  refine ⟨⟨vs, u, sq, hu⟩, fun x H'' y => ?_⟩
  obtain ⟨rfl, y⟩ := y
  have ex : x = u := Option.some.inj ((y _ sq).symm.trans hu)
  subst ex
  exact ⟨Ho', Same.refl _, fun _ z => z, lu.mo e⟩
theorem y_lenLL {xss : List (List α)} (h : LLV K R Ho v xss) (z : Zs R H Ho) (k : Q (.int (xss.length : Int)) H) : rLenZ K [v] H Q := by
  obtain ⟨p, vs, rfl, l, s⟩ := h
  refine ⟨_, _, rfl, .inl (src_stay s (Same.refl _) z fun r h => h), ?_⟩
  rw [l.len]
  exact k
theorem y_ixLL {xss : List (List α)} {i : Int} {f : List α → W γ} (h : LLV K R Ho v xss) (m : ∀ r ∈ R, r ∈ rs) (z : Zs rs H Ho) (hw : (W.bind (W.opt (atI xss i)) f).run Φ) (k : ∀ t u, LV K R Ho u t → (f t).run Φ → Q u H) : rIxL K v (.int i) H Q := by
  obtain ⟨x, ex, hw⟩ := hw
  obtain ⟨p, vs, rfl, l, s⟩ := h
  obtain ⟨j, ej, hx⟩ := at_ix ex
  obtain ⟨u, hu, lu⟩ := l.get hx
  refine ⟨p, vs, i, u, rfl, rfl, src_stay s (Same.refl _) z m, ?_, k x u lu hw⟩
  rw [← l.len] at ej
  rw [ix_at ej, hu]
/-- a number, and a list of lists -/
def LPG (K : PySem.W.Frag) (R : Grp) (Ho : Hp) (v : V) (x : Int × List (List α)) : Prop := ∃ v1, TupAt Ho v (.int x.1) v1 ∧ LLV K R Ho v1 x.2
theorem LPG.of2 {n : Int} {xss : List (List α)} (t : TupAt Ho v (.int n) v1) (l : LLV K R Ho v1 xss) : LPG K R Ho v (n, xss) := ⟨v1, t, l⟩
theorem LPG.ofD {x : Int × List (List α)} (d : Z.D K Ho v x) : LPG K R Ho v x := by
  obtain ⟨n, xss⟩ := x
  have d : Dq K Ho v (.tuple [.int n, .list (xss.map Py.toPy)]) := d
  cases d with
  | tup hs ha =>
    cases ha with
    | cons h1 ha =>
      cases ha with
      | cons h2 ha =>
        cases ha
        cases h1
        exact ⟨_, ⟨_, rfl, hs⟩, LLV.ofD h2⟩
theorem LPG.mo {x : Int × List (List α)} (h : LPG K R Ho v x) (e : Same Ho Ho') : LPG K R Ho' v x := by
  obtain ⟨v1, t, l⟩ := h
  exact ⟨v1, t.mo e, l.mo e⟩
theorem LPG.sub {R2 : Grp} {x : Int × List (List α)} (h : LPG K R Ho v x) (e : ∀ r ∈ R, r ∈ R2) : LPG K R2 Ho v x := by
  obtain ⟨v1, t, l⟩ := h
  exact ⟨v1, t, l.sub e⟩
/-! items that are read -/
theorem elMo {P : OwnPred β} [OwnD P] {x : β} (b : ∃ g, P K Ho u x g ∧ ∀ r ∈ g, r ∈ R) (e : Same Ho Ho') : ∃ g, P K Ho' u x g ∧ ∀ r ∈ g, r ∈ R := by
  obtain ⟨g, o, m⟩ := b
  exact ⟨g, OwnD.mo o e, m⟩
theorem elRd {P : OwnPred β} [OwnD P] {x : β} (b : ∃ g, P K Ho u x g ∧ ∀ r ∈ g, r ∈ R) (m : ∀ r ∈ R, r ∈ rs) (z : Zs rs H Ho) : Z.D K H u x := by
  obtain ⟨g, o, m0⟩ := b
  exact OwnD.rd o z.le (z.in_ fun r h => m r (m0 r h))
theorem elLv {x : List α} (b : ∃ g, OL K Ho u x g ∧ ∀ r ∈ g, r ∈ R) (m : ∀ r ∈ R, r ∈ rs) : LV K rs Ho u x := by
  obtain ⟨g, o, m0⟩ := b
  exact OL.lv o fun r h => m r (m0 r h)
/-! pop of a list of own things -/
theorem flat_erase : ∀ {gs : List Grp} {i : Nat} {g : Grp}, gs[i]? = some g → gs.flatten.Perm (g ++ (gs.eraseIdx i).flatten)
  | [], i, g, h => by simp at h
  | a :: gs, 0, g, h => by cases h; simp
  | a :: gs, i + 1, g, h => by
    have := flat_erase (gs := gs) (i := i) (by simpa using h)
    simp only [List.eraseIdx_cons_succ, List.flatten_cons]
    refine (this.append_left a).trans ?_
    exact List.perm_append_comm_assoc _ _ _
theorem RowO.erase {P : V → β → Grp → Prop} : ∀ {vs : List V} {xs : List β} {gs : List Grp} {i : Nat}, RowO P vs xs gs → RowO P (vs.eraseIdx i) (xs.eraseIdx i) (gs.eraseIdx i)
  | _, _, _, i, .nil => .nil
  | _, _, _, 0, .cons a t => t
  | _, _, _, i + 1, .cons a t => .cons a (t.erase (i := i))
theorem g_popIO {P : OwnPred β} {xs : List β} {i : Int} {f : β × List β → W γ} (z : Zs (g ++ R) H Ho) (o : OLo P K Ho v xs g) (hw : (W.bind (popI xs i) f).run Φ) (k : ∀ t xs' w gi g' H', Zs (gi ++ (g' ++ R)) H' Ho → OLo P K Ho v xs' g' → P K Ho w t gi → (f (t, xs')).run Φ → Q w H') : rPopAt v [.int i] H Q := by
  obtain ⟨p, vs, gs, rfl, r, rfl⟩ := o
  obtain ⟨hb, j, ej, t, et, hw⟩ := hw
  obtain ⟨w, gi, hv, hg, pw⟩ := r.get et
  have z1 : Zs ((p, HO.lst vs) :: (gs.flatten ++ R)) H Ho := z
  refine ⟨p, vs, i, j, w, rfl, rfl, z1.head, hb.1, hb.2, ?_, hv, ?_⟩
  · have := r.len.1
    rw [this]
    exact ixN_seq ej
  · refine k t _ w gi ((p, HO.lst (vs.eraseIdx j)) :: (gs.eraseIdx j).flatten) _ ?_ ⟨p, _, _, rfl, r.erase, rfl⟩ pw hw
    have z2 : Zs ((p, HO.lst (vs.eraseIdx j)) :: (gs.flatten ++ R)) _ Ho := z1.put
    refine z2.perm ?_
    show ((p, HO.lst (vs.eraseIdx j)) :: (gs.flatten ++ R)).Perm (gi ++ ((p, HO.lst (vs.eraseIdx j)) :: ((gs.eraseIdx j).flatten ++ R)))
    refine List.Perm.trans (List.Perm.cons _ ?_) List.perm_middle.symm
    rw [← List.append_assoc]
    exact (flat_erase hg).append_right _
theorem g_popO {P : OwnPred β} {xs : List β} {f : β → W γ} (z : Zs (g ++ R) H Ho) (o : OLo P K Ho v xs g) (hw : (W.bind (popL xs) f).run Φ) (k : ∀ t w gi g' H', Zs (gi ++ (g' ++ R)) H' Ho → OLo P K Ho v xs.dropLast g' → P K Ho w t gi → (f t).run Φ → Q w H') : rPop v [] H Q := by
  obtain ⟨p, vs, gs, rfl, r, rfl⟩ := o
  obtain ⟨t, et, hw⟩ := hw
  obtain ⟨w, gi, hv, hg, pw⟩ := r.get et
  have hl := r.len
  have z1 : Zs ((p, HO.lst vs) :: (gs.flatten ++ R)) H Ho := z
  refine ⟨p, vs, w, rfl, rfl, z1.head, by rw [hl.1]; exact hv, ?_⟩
  have r2 := r.erase (i := xs.length - 1)
  rw [List.eraseIdx_length_sub_one] at r2
  have e1 : vs.eraseIdx (xs.length - 1) = vs.dropLast := by rw [← hl.1, List.eraseIdx_length_sub_one]
  rw [e1] at r2
  refine k t w gi ((p, HO.lst vs.dropLast) :: (gs.eraseIdx (xs.length - 1)).flatten) _ ?_ ⟨p, _, _, rfl, r2, rfl⟩ pw hw
  have z2 : Zs ((p, HO.lst vs.dropLast) :: (gs.flatten ++ R)) _ Ho := z1.put
  refine z2.perm ?_
  show ((p, HO.lst vs.dropLast) :: (gs.flatten ++ R)).Perm (gi ++ ((p, HO.lst vs.dropLast) :: ((gs.eraseIdx (xs.length - 1)).flatten ++ R)))
  refine List.Perm.trans (List.Perm.cons _ ?_) List.perm_middle.symm
  rw [← List.append_assoc]
  exact (flat_erase hg).append_right _
theorem l_oG2 {β γ : Type} {R : Grp} {H Ho : Hp} {Φ : γ → Prop} {P : V → β → Grp → Prop} {X : Prop} {v : V} {e : β} {g : Grp} {f : β → W γ} (hw : (W.bind (W.ret e) f).run Φ) (z : Zs (g ++ R) H Ho) (o : P v e g) (k : ∀ x g, Zs (g ++ R) H Ho → P v x g → (f x).run Φ → X) : X := k e g z o hw
end
end Z

/-! # a tuple of two pairs of one's own; a loop over it, turn by turn; a borrowed pair -/
namespace Z
open PySem PySem.Spec PyProof.Rows L2
section
variable {K : PySem.W.Frag} {H Ho H' Ho' : Hp} {α β α' β' γ : Type} [Py α] [Py β] [Py α'] [Py β'] {Φ : γ → Prop} {R R' g0 g1 g rs : Grp} {v w u v0 v1 : V} {Q : VK} {σ σ' : L2.St} {x : (List α × List β) × (List α' × List β')} {p : List α × List β} {q : List α' × List β'}
theorem TupAt.dd {x : α} {y : β} (t : TupAt Ho v v0 v1) (d0 : Z.D K Ho v0 x) (d1 : Z.D K Ho v1 y) : Z.D K Ho v (x, y) := by
  obtain ⟨p, rfl, hp⟩ := t
  exact .tup hp (.cons d0 (.cons d1 .nil))
def OPP (K : PySem.W.Frag) (Ho : Hp) (v : V) (x : (List α × List β) × (List α' × List β')) (g : Grp) : Prop := ∃ v0 v1 g0 g1, TupAt Ho v v0 v1 ∧ OP K Ho v0 x.1 g0 ∧ OP K Ho v1 x.2 g1 ∧ g = g0 ++ g1
theorem OPP.mo (h : OPP K Ho v x g) (e : Same Ho Ho') : OPP K Ho' v x g := by
  obtain ⟨v0, v1, g0, g1, t, o0, o1, rfl⟩ := h
  exact ⟨v0, v1, g0, g1, t.mo e, o0.mo e, o1.mo e, rfl⟩
theorem pp_open {P : Prop} (o : OPP K Ho v x g) (z : Zs (g ++ R) H Ho) (k : ∀ v0 v1 g0 g1, TupAt Ho v v0 v1 → OP K Ho v0 x.1 g0 → OP K Ho v1 x.2 g1 → Zs (g0 ++ (g1 ++ R)) H Ho → P) : P := by
  obtain ⟨v0, v1, g0, g1, t, o0, o1, rfl⟩ := o
  rw [List.append_assoc] at z
  exact k v0 v1 g0 g1 t o0 o1 z
theorem pp_close {P : Prop} (t : TupAt Ho v v0 v1) (o0 : OP K Ho v0 p g0) (o1 : OP K Ho v1 q g1) (z : Zs (g0 ++ (g1 ++ R)) H Ho) (k : ∀ g, OPP K Ho v (p, q) g → Zs (g ++ R) H Ho → P) : P :=
  k (g0 ++ g1) ⟨v0, v1, g0, g1, t, o0, o1, rfl⟩ (by rw [List.append_assoc]; exact z)
theorem pp_fr {P : Prop} (o : OPP K Ho v x g) (z : Zs (g ++ R) H Ho) (k : ∀ Ho', Same Ho Ho' → Zs R H Ho' → Z.D K Ho' v x → P) : P := by
  obtain ⟨w0, w1, g0, g1, t, o0, o1, rfl⟩ := o
  rw [List.append_assoc] at z
  refine p_fr o0 z fun Ho1 e1 z1 d0 => ?_
  refine p_fr (o1.mo e1) z1 fun Ho2 e2 z2 d1 => ?_
  exact k Ho2 (e1.trans e2) z2 (TupAt.dd ((t.mo e1).mo e2) (D.mo d0 e2) d1)
theorem pp_o {G : V → Prop} {e : (List α × List β) × (List α' × List β')} {f : (List α × List β) × (List α' × List β') → W γ} (hw : (W.bind (W.ret e) f).run Φ) (z : Zs (g ++ R) H Ho) (o : OPP K Ho v e g) (k : ∀ x v g, Zs (g ++ R) H Ho → OPP K Ho v x g → (f x).run Φ → G v) : LetV G v := k e v g z o hw
/-- a pair of lists that another holds -/
def LP (K : PySem.W.Frag) (R : Grp) (Ho : Hp) (v : V) (x : List α × List β) : Prop := ∃ v0 v1, TupAt Ho v v0 v1 ∧ LV K R Ho v0 x.1 ∧ LV K R Ho v1 x.2
theorem LP.of2 {xs : List α} {ys : List β} (t : TupAt Ho v v0 v1) (l0 : LV K R Ho v0 xs) (l1 : LV K R Ho v1 ys) : LP K R Ho v (xs, ys) := ⟨v0, v1, t, l0, l1⟩
/-- an iterator over a tuple of two -/
def Tw (K : PySem.W.Frag) (J : It) (v v0 v1 : V) : Prop := ∀ rs H' Ho', TupAt Ho' v v0 v1 → Zs rs H' Ho' → J.go 0 H' ∧ (∀ x H'', J.yld 0 H' x H'' → H'' = H' ∧ x = v0) ∧ J.go 1 H' ∧ (∀ x H'', J.yld 1 H' x H'' → H'' = H' ∧ x = v1) ∧ J.stop 2 H'
theorem tw_tup {a : Addr} : Tw K (Itt K a) (.ref a) v0 v1 := by
  rintro rs H' Ho' ⟨p, e, hp⟩ z
  cases e
  have s : SqT K H' a [v0, v1] := SqT.of (z.le _ _ hp)
  exact ⟨⟨_, _, s, rfl⟩, fun x H'' y => ⟨y.1, (Option.some.inj (y.2 _ s)).symm⟩, ⟨_, _, s, rfl⟩, fun x H'' y => ⟨y.1, (Option.some.inj (y.2 _ s)).symm⟩, _, s, Nat.le_refl _⟩
theorem k_srcTw {R : It → Hp → Prop} (t : TupAt Ho v v0 v1) (z : Zs rs H Ho) (k : ∀ J, Tw K J v v0 v1 → R J H) : SrcT K R v H := by
  obtain ⟨p, rfl, hp⟩ := t
  exact ⟨p, rfl, ⟨_, SqT.of (z.le _ _ hp)⟩, k _ tw_tup⟩
variable {g' : TG} {u1 tb : TS} {D : Ends} {J : It}
def Nx2 (u : TS) (D : Ends) (J : It) : L2.St → Hp → Prop := fun σ' H' => J.stop 2 H' ∧ u D σ' H'
def Nx1 (g : TG) (tb u : TS) (D : Ends) (J : It) : L2.St → Hp → Prop := fun σ' H' => J.go 1 H' ∧ ∀ x H'', J.yld 1 H' x H'' → g x σ' H'' fun σ2 H2 => tb { D with nx := Nx2 u D J, ct := Nx2 u D J, bk := u D } σ2 H2
theorem y_for2 (T : Tw K J v v0 v1) (t : TupAt Ho v v0 v1) (z : Zs rs H Ho) (k : g' v0 σ H fun σ2 H2 => tb { D with nx := Nx1 g' tb u1 D J, ct := Nx1 g' tb u1 D J, bk := u1 D } σ2 H2) : ForG g' tb u1 D σ J H := by
  refine ⟨fun i m σ' H' => (i = 0 ∧ m = 2 ∧ σ' = σ ∧ H' = H) ∨ (i = 1 ∧ m = 1 ∧ Nx1 g' tb u1 D J σ' H') ∨ (i = 2 ∧ m = 0 ∧ Nx2 u1 D J σ' H'), ⟨2, .inl ⟨rfl, rfl, rfl, rfl⟩⟩, ?_⟩
  rintro i m σ' H' (⟨rfl, rfl, rfl, rfl⟩ | ⟨rfl, rfl, n1⟩ | ⟨rfl, rfl, n2⟩)
  · obtain ⟨a, b, _⟩ := T _ _ _ t z
    refine .inr ⟨a, Nx1 g' tb u1 D J, fun σ' H' n => ⟨1, by decide, .inr (.inl ⟨rfl, rfl, n⟩)⟩, fun x H'' y => ?_⟩
    obtain ⟨rfl, rfl⟩ := b x H'' y
    exact k
  · exact .inr ⟨n1.1, Nx2 u1 D J, fun σ' H' n => ⟨0, by decide, .inr (.inr ⟨rfl, rfl, n⟩)⟩, n1.2⟩
  · exact .inl n2
theorem y_nx1 {E : Ends} (hE : E.nx = Nx1 g' tb u1 D J) (T : Tw K J v v0 v1) (t : TupAt Ho v v0 v1) (z : Zs rs H Ho) (k : g' v1 σ H fun σ2 H2 => tb { D with nx := Nx2 u1 D J, ct := Nx2 u1 D J, bk := u1 D } σ2 H2) : tNext E σ H := by
  show E.nx σ H
  rw [hE]
  obtain ⟨_, _, a, b, _⟩ := T _ _ _ t z
  refine ⟨a, fun x H'' y => ?_⟩
  obtain ⟨rfl, rfl⟩ := b x H'' y
  exact k
theorem y_nx2 {E : Ends} (hE : E.nx = Nx2 u1 D J) (T : Tw K J v v0 v1) (t : TupAt Ho v v0 v1) (z : Zs rs H Ho) (k : u1 D σ H) : tNext E σ H := by
  show E.nx σ H
  rw [hE]
  obtain ⟨_, _, _, _, a⟩ := T _ _ _ t z
  exact ⟨a, k⟩
end
end Z

/-! # things that are read for a while: displays of what others hold -/
namespace Z
open PySem PySem.Spec PyProof.Rows L2
def RdV {α : Type} [Py α] (K : PySem.W.Frag) (R : Grp) (Ho : Hp) (v : V) (x : α) : Prop := ∀ rs H, (∀ r ∈ R, r ∈ rs) → Zs rs H Ho → Z.D K H v x
inductive RdAll (K : PySem.W.Frag) (R : Grp) (Ho : Hp) : List V → List PyData → Prop
  | nil : RdAll K R Ho [] []
  | cons {v : V} {d : PyData} {vs : List V} {ds : List PyData} (h : RdV K R Ho v d) (t : RdAll K R Ho vs ds) : RdAll K R Ho (v :: vs) (d :: ds)
section
variable {K : PySem.W.Frag} {H Ho H' Ho' : Hp} {R R2 rs g : Grp} {v w : V} {α β γ : Type} [Py α] [Py β] {Φ : γ → Prop} {Q : VK} {vs : List V} {ds : List PyData}
theorem Zs.back (z : Zs rs H Ho') (e : Same Ho Ho') : Zs rs H Ho := ⟨e.trans z.le, fun r h => ⟨(z.rt r h).1, by
  cases q : Ho r.1 with
  | none => rfl
  | some o =>
    have := e _ _ q
    rw [(z.rt r h).2] at this
    cases this⟩, z.nd, z.nt⟩
theorem RdV.mo {x : α} (h : RdV K R Ho v x) (e : Same Ho Ho') : RdV K R Ho' v x := fun rs H m z => h rs H m (z.back e)
theorem RdV.sub {x : α} (h : RdV K R Ho v x) (e : ∀ r ∈ R, r ∈ R2) : RdV K R2 Ho v x := fun rs H m z => h rs H (fun r hr => m r (e r hr)) z
theorem RdV.rd {x : α} (h : RdV K R Ho v x) (m : ∀ r ∈ R, r ∈ rs) (z : Zs rs H Ho) : Z.D K H v x := h rs H m z
theorem RdV.py {x : α} (h : RdV K R Ho v x) : RdV K R Ho v (toPy x) := fun rs H m z => h rs H m z
theorem RdV.ofD {x : α} (d : Z.D K Ho v x) : RdV K R Ho v x := fun rs H m z => D.mo d z.le
theorem RdV.ofLV {x : List α} (d : LV K R Ho v x) : RdV K R Ho v x := fun rs H m z => LV.dp (LV.sub d m) z
theorem RdV.ofO {P : OwnPred β} [OwnD P] {x : β} (o : P K Ho v x g) (e : ∀ r ∈ g, r ∈ R) : RdV K R Ho v x := fun rs H m z => OwnD.rd o z.le (z.in_ fun r h => m r (e r h))
theorem RdV.ofEl {P : OwnPred β} [OwnD P] {x : β} (b : ∃ g, P K Ho v x g ∧ ∀ r ∈ g, r ∈ R2) (e : ∀ r ∈ R2, r ∈ R) : RdV K R Ho v x := fun rs H m z => elRd b (fun r h => m r (e r h)) z
theorem RdV.ofBLo {P : OwnPred β} [OwnD P] {x : List β} (b : BLo P K R Ho v x) : RdV K R Ho v x := fun rs H m z => (BLo.sub b m).rd z
theorem lvs_dl (z : Zs rs H Ho) : ∀ {vs : List V} {xss : List (List α)}, LVs K rs Ho vs xss → DL K H vs xss
  | _, _, .nil => .nil
  | _, _, .cons a t => .cons (LV.dp a z) (lvs_dl z t)
theorem RdV.ofLLV {x : List (List α)} (b : LLV K R Ho v x) : RdV K R Ho v x := fun rs H m z => by
  obtain ⟨p, vs, rfl, l, s⟩ := b.sub m
  exact .lst (src_stay s (Same.refl _) z fun r h => h) (lvs_dl z l)
theorem RdV.int {x : Int} : RdV K R Ho (.int x) x := fun _ _ _ _ => .int _
theorem RdV.bl {x : Bool} : RdV K R Ho (.bl x) x := fun _ _ _ _ => .bl _
theorem RdV.str {x : Str} : RdV K R Ho (.str x) x := fun _ _ _ _ => .str _
theorem RdV.non : RdV K R Ho .non PyData.none := fun _ _ _ _ => .non
theorem RdV.two {x : α} {y : β} {v0 v1 : V} (t : TupAt Ho v v0 v1) (h0 : RdV K R Ho v0 x) (h1 : RdV K R Ho v1 y) : RdV K R Ho v (x, y) := fun rs H m z => by
  obtain ⟨p, rfl, hp⟩ := t
  exact .tup (z.le _ _ hp) (.cons (h0 rs H m z) (.cons (h1 rs H m z) .nil))
theorem RdAll.all (m : ∀ r ∈ R, r ∈ rs) (z : Zs rs H Ho) : ∀ {vs : List V} {ds : List PyData}, RdAll K R Ho vs ds → DqAll K H vs ds
  | _, _, .nil => .nil
  | _, _, .cons h t => .cons (h rs H m z) (t.all m z)
theorem RdAll.mo (e : Same Ho Ho') : ∀ {vs : List V} {ds : List PyData}, RdAll K R Ho vs ds → RdAll K R Ho' vs ds
  | _, _, .nil => .nil
  | _, _, .cons h t => .cons (h.mo e) (t.mo e)
theorem k_lstRd {x : α} (hx : toPy x = .list ds) (z : Zs R H Ho) (l : RdAll K R Ho vs ds) (hl : vs.length ≤ sizeLine) (k : ∀ p g H', Zs (g ++ R) H' Ho → RdV K (g ++ R) Ho (.ref p) x → Q (.ref p) H') : LstK Q vs H :=
  ⟨hl, fun p hp => k p [(p, HO.lst vs)] _ (z.root hp) fun rs H m z => by
    show Dq K H (.ref p) (toPy x)
    rw [hx]
    exact .lst (SqL.of (z.rt _ (m _ List.mem_cons_self)).1) (l.all (fun r h => m r (List.mem_append_right _ h)) z)⟩
theorem k_tupRd {x : α} (hx : toPy x = .tuple ds) (z : Zs R H Ho) (l : RdAll K R Ho vs ds) (hl : vs.length ≤ sizeLine) (k : ∀ p H' Ho', Same Ho Ho' → Zs R H' Ho' → RdV K R Ho' (.ref p) x → Q (.ref p) H') : TupK Q vs H :=
  ⟨hl, fun p hp => by
    have e : Same Ho (upd Ho p (.tup vs)) := Same.new (z.free hp)
    refine k p _ _ e (z.alloc hp) fun rs H m z2 => ?_
    show Dq K H (.ref p) (toPy x)
    rw [hx]
    exact .tup (z2.le _ _ upd_same) ((l.mo e).all m z2)⟩
/-! a way of its own where an error may leave -/
section
variable {δ : Type} {Ψ : δ → Prop} {a : Bool} {c1 c2 : W δ} {X : Prop} {QB : Bool → Hp → Prop}
theorem w_or2V (hw : (W.ite a c1 c2).run Ψ) (h1 : a = true → c1.run Ψ → Q (.bl true) H) (h2 : a = false → c2.run Ψ → X) : if a = true then Q (.bl true) H else X := by
  cases a with
  | true => exact iteT (h1 rfl (hw.1 rfl))
  | false => exact iteF (h2 rfl (hw.2 rfl))
theorem w_and2V (hw : (W.ite a c1 c2).run Ψ) (h1 : a = true → c1.run Ψ → X) (h2 : a = false → c2.run Ψ → Q (.bl false) H) : if a = true then X else Q (.bl false) H := by
  cases a with
  | true => exact iteT (h1 rfl (hw.1 rfl))
  | false => exact iteF (h2 rfl (hw.2 rfl))
theorem w_or2 (hw : (W.ite a c1 c2).run Ψ) (h1 : a = true → c1.run Ψ → QB true H) (h2 : a = false → c2.run Ψ → X) : if a = true then QB true H else X := by
  cases a with
  | true => exact iteT (h1 rfl (hw.1 rfl))
  | false => exact iteF (h2 rfl (hw.2 rfl))
theorem w_and2 (hw : (W.ite a c1 c2).run Ψ) (h1 : a = true → c1.run Ψ → X) (h2 : a = false → c2.run Ψ → QB false H) : if a = true then X else QB false H := by
  cases a with
  | true => exact iteT (h1 rfl (hw.1 rfl))
  | false => exact iteF (h2 rfl (hw.2 rfl))
end
theorem LLV.ofL {xss : List (List α)} (o : OL K Ho v xss g) (m : ∀ r ∈ g, r ∈ R) : LLV K R Ho v xss := by
  obtain ⟨p, vs, rfl, d, rfl⟩ := o
  exact ⟨p, vs, rfl, lvs_ofD d, .inr (m _ List.mem_cons_self)⟩
/-! a pair of lists, lent -/
theorem LP.ofD {x : List α × List β} (d : Z.D K Ho v x) : LP K R Ho v x := by
  obtain ⟨xs, ys⟩ := x
  have d : Dq K Ho v (.tuple [toPy xs, toPy ys]) := d
  cases d with
  | tup hs ha =>
    cases ha with
    | cons h1 ha =>
      cases ha with
      | cons h2 ha =>
        cases ha
        exact ⟨_, _, ⟨_, rfl, hs⟩, LV.of h1, LV.of h2⟩
end
end Z

/-! # min(xs, key=len, default=None), xs a list of lists; displays of dicts with one key -/
namespace Z
open PySem PySem.Spec PyProof.Rows L2
/-- where the shortest stands first -/
def atMin (ns : List Nat) : Nat := argBest (fun i j => decide ((ns.getD i 0 : Int) < (ns.getD j 0 : Int))) (ns.length - 1)
def mnLen {α : Type} (xs : List (List α)) : Option (List α) := xs[atMin (xs.map (·.length))]?
def rMinLen (K : PySem.W.Frag) : List V → Hp → VK → Prop := fun xs H Q => ∃ (l : Addr) (us : List V) (ns : List Nat), xs = [.ref l] ∧ SqL K H l us ∧ us.length = ns.length ∧ (∀ (i : Nat) (u : V), us[i]? = some u → ∃ a vs, u = .ref a ∧ SqL K H a vs ∧ vs.length = ns.getD i 0) ∧
  (us = [] → Q .non H) ∧ ∀ u, us[atMin ns]? = some u → Q u H
section
variable {X : Cx} {pins : List (Addr × Obj)} {σ : L2.St} {H : Hp} {s : Shared} {Q : VK}
/-- a heap that has grown -/
def Grown (s s' : Shared) : Prop := (∃ h' tk, s' = { s with heap := h', toks := tk }) ∧ ∀ b o, s.heap.get? b = some o → s'.heap.get? b = some o
theorem Grown.moved {s s1 s2 : Shared} {wr : List Addr} (g : Grown s s1) (m : Moved wr (fun a b => b = a) s1 s2) (hw : ∀ b ∈ wr, s.heap.objs.size ≤ b) : Grown s s2 := by
  obtain ⟨⟨h1, t1, rfl⟩, k⟩ := g
  have e1 : s2.gens = s.gens := m.gens
  have e2 : s2.drawn = s.drawn := m.drawn
  have e3 : s2.os = s.os := m.os
  refine ⟨⟨s2.heap, s2.toks, ?_⟩, fun b o e => m.heap b o (fun hb => ?_) (k b o e)⟩
  · obtain ⟨hp, g, d, tk, os⟩ := s2
    dsimp only at e1 e2 e3
    subst e1 e2 e3
    rfl
  · exact absurd (Nat.lt_of_lt_of_le (Heap.lt_size e) (hw b hb)) (Nat.lt_irrefl b)
theorem paired_get {α β : Type} {F : α → β → Prop} : ∀ {xs : List α} {ys : List β}, Paired F xs ys → ∀ (i : Nat) (y : β), ys[i]? = some y → ∃ x, xs[i]? = some x ∧ F x y
  | _, _, .nil, i, y, e => by simp at e
  | _, _, .cons h t, 0, y, e => by cases e; exact ⟨_, rfl, h⟩
  | _, _, .cons h t, i + 1, y, e => paired_get t i y e
theorem call_minLen (hc : X.calm = true) (I : Inv X pins σ H s) {l : Addr} {us : List V} {ns : List Nat} (hs : SqL X.K H l us) (hn : us.length = ns.length) (hi : ∀ (i : Nat) (u : V), us[i]? = some u → ∃ a vs, u = .ref a ∧ SqL X.K H a vs ∧ vs.length = ns.getD i 0)
    (h0 : us = [] → Q .non H) (h1 : ∀ u, us[atMin ns]? = some u → Q u H) :
    wpAny (model X.prog X.w) X.A (call (.builtin "min") [.ref l] [(Str.ofString "key", .builtin "len"), (Str.ofString "default", .none)]) (EP X pins σ Q) X.xe s := by
  obtain ⟨its, rv, hl, hz⟩ := I.list hs
  have hsz : its.toArray.size = ns.length := by rw [List.size_toArray, ← rv.length, hn]
  have item : ∀ (i : Nat) (v : Value), its.toArray[i]? = some v → ∃ a, v = .ref a ∧ ∃ w : Array Value, s.heap.IsList a w ∧ w.size = ns.getD i 0 ∧ w.size ≤ sizeLine := fun i v e => by
    rw [List.getElem?_toArray] at e
    obtain ⟨u, eu, r⟩ := paired_get rv i v e
    obtain ⟨a, vs, rfl, sq, hlen⟩ := hi i u eu
    obtain rfl : v = Value.ref a := r
    obtain ⟨its2, rv2, hl2, hz2⟩ := I.list sq
    exact ⟨a, rfl, its2.toArray, hl2.isList, by rw [List.size_toArray, ← rv2.length, hlen], by rw [List.size_toArray, ← rv2.length]; exact hz2⟩
  refine call_min_walkKBD (PySem.W.iter_listW (A := X.A.in1) (I.ok.hd hc) hl.isList fun s₂ e W st hfp hw hk => ?_)
  refine ⟨_, _, _, _, _, _, _, Grown s, fun i k _ => ∃ t, k = Value.int (ns.getD i 0 : Int) t, fun i j => decide ((ns.getD i 0 : Int) < (ns.getD j 0 : Int)), rfl, W, st, hfp, ⟨fun s1 s2 g m => g.moved m fun b hb => ?_, fun i k s1 s2 hv _ => hv, fun i v s1 o Q' E' hin hP hJ hSt hS hQ => ?_, fun i j ki kj s1 Q' E' hJ hv hv' hq => ?_⟩, ⟨⟨s₂.heap, s₂.toks, by subst e; rfl⟩, hk⟩, fun hz0 s' hJ => ?_, fun hp v s' hP hJ => ?_⟩
  · rcases List.mem_cons.mp hb with rfl | hb
    · subst e
      show s.heap.objs.size ≤ (s.heap.push _).objs.size
      rw [Heap.size_push]
      exact Nat.le_succ _
    · rw [List.mem_singleton.mp hb]; exact Nat.le_refl _
  · obtain ⟨a, rfl, w, hw2, hlen, hbig⟩ := item i v hP
    have hw3 : s1.heap.IsList a w := by
      obtain ⟨o1, e1, r1⟩ := hw2
      exact ⟨o1, hJ.2 _ _ e1, r1⟩
    refine PySem.Calls.call_len_list hw3 (by
      have : sizeLine ≤ 2 ^ 40 := by decide
      omega) ?_
    refine hQ _ _ ⟨?_, hJ.2⟩ hSt hS ⟨_, by rw [hlen]⟩ fun j k' h => h
    obtain ⟨⟨h', tk, rfl⟩, _⟩ := hJ
    exact ⟨h', _, rfl⟩
  · obtain ⟨t, rfl⟩ := hv
    obtain ⟨t', rfl⟩ := hv'
    exact lt_int hq
  · obtain ⟨⟨h', tk, rfl⟩, k⟩ := hJ
    exact ⟨.non, H, I.kept (t' := tk) k, rfl, h0 (List.eq_nil_of_length_eq_zero (by omega))⟩
  · obtain ⟨⟨h', tk, rfl⟩, k⟩ := hJ
    rw [hsz] at hP
    have hP : its.toArray[atMin ns]? = some v := hP
    rw [List.getElem?_toArray] at hP
    obtain ⟨u, eu, r⟩ := paired_get rv _ v hP
    exact ⟨u, H, I.kept (t' := tk) k, r, h1 u eu⟩
def tMinLen (K : PySem.W.Frag) (t : TA) : TE := fun σ H Q => t σ H fun vs H1 => rMinLen K vs H1 Q
theorem pe_minLen {K : PySem.W.Frag} {a ed : Expr} {t : TA} {p p2 kp kp2 pos : Pos} (hK : X.K = K) (hc : X.calm = true) (hg : Gl X "min") (hm : X.mg "min" = none) (hg2 : Gl X "len") (hm2 : X.mg "len" = none) (ha : PA X [a] t) (hd : PE X ed (tC .non))
    (he : backTo pos (starEach [a] X.env) = (false, eval a X.env) :: backTo pos (starEach [] X.env) := by rfl) (hpl : (backTo pos (starEach [a] X.env)).any (·.1) = false := by rfl) :
    PE X (.Call (.Name "min" p) [a] [⟨some "key", .Name "len" p2, kp⟩, ⟨some "default", ed, kp2⟩] pos) (tMinLen K t) := by
  subst hK
  refine ⟨fun pins s σ H Q I h => ?_⟩
  refine wpAny_Call_Name_kw (ld_blt I hg hm (u := .builtin "min") (by decide +kernel) ?_)
  refine PyProof.Rows.callWith_kw (thn (ha.run pos pins s σ H _ I h) fun us s1 ⟨vs, H1, I1, r1, q1⟩ => ?_) he hpl rfl rfl
  obtain ⟨l, ws, ns, rfl, a1, a2, a3, a4, a5⟩ := q1
  refine PyProof.Rows.kwAll_cons (ld_blt I1 hg2 hm2 (u := .builtin "len") (by decide +kernel) ?_)
  refine PyProof.Rows.kwAll_cons (thn (hd.run pins s1 σ H1 (fun v H2 => v = .non ∧ H2 = H1) I1 ⟨rfl, rfl⟩) fun u s2 ⟨v, H2, I2, rv, e1, e2⟩ => PyProof.Rows.kwAll_nil ?_)
  subst e1 e2
  obtain rfl := Vals.ref1 r1
  obtain rfl : u = Value.none := rv
  exact call_minLen hc I2 a1 a2 a3 a4 a5
end
section
variable {K : PySem.W.Frag} {rs R : Grp} {H Ho : Hp} {σ : L2.St} {Q : VK} {v : V} {α : Type} [Py α] {t : TA}
theorem y_mln (k : t σ H fun vs H1 => rMinLen K vs H1 Q) : tMinLen K t σ H Q := k
theorem y_minLen {xs : List (List α)} (d : LV K rs Ho v xs) (z : Zs rs H Ho) (k : ∀ u, Z.D K Ho u (mnLen xs) → Q u H) : rMinLen K [v] H Q := by
  obtain ⟨l, us, rfl, dl, sq⟩ := LV.rd d z
  have hlen : us.length = (xs.map (·.length)).length := by rw [dl.len, List.length_map]
  refine ⟨l, us, xs.map (·.length), rfl, sq, hlen, fun i u hu => ?_, fun e => ?_, fun u hu => ?_⟩
  · have hi := (List.getElem?_eq_some_iff.mp hu).1
    have hi : i < xs.length := by rw [← dl.len]; exact hi
    have hx := List.getElem?_eq_getElem hi
    obtain ⟨w, ew, dw⟩ := dl.get hx
    rw [hu] at ew
    cases ew
    have dw : Dq K Ho u (.list (xs[i].map Py.toPy)) := dw
    cases dw with
    | lst hs hd =>
      refine ⟨_, _, rfl, z.le.seq hs, ?_⟩
      rw [dpAll_len hd, List.length_map, List.getD_eq_getElem?_getD, List.getElem?_map, hx]
      rfl
  · have hx : xs = [] := List.length_eq_zero_iff.mp (by rw [← dl.len, e]; rfl)
    refine k _ ?_
    rw [hx]
    exact Dq.non
  · have hx : ∃ x, xs[atMin (xs.map (·.length))]? = some x := by
      have hi := (List.getElem?_eq_some_iff.mp hu).1
      exact ⟨_, List.getElem?_eq_getElem (show _ < xs.length by rw [← dl.len]; exact hi)⟩
    obtain ⟨x, ex⟩ := hx
    obtain ⟨w, ew, dw⟩ := dl.get ex
    rw [hu] at ew
    cases ew
    refine k _ ?_
    unfold mnLen
    rw [ex]
    exact dw
end
/-! displays of dicts with one key -/
section
variable {X : Cx} {pins : List (Addr × Obj)} {σ : L2.St} {s : Shared} {H Ho : Hp} {Q : VK} {tk tv : TE} {K : PySem.W.Frag} {R : Grp} {α β : Type} [Py α] {v w : V}
def Dsp1T (Q : VK) (p : Addr) (x y : V) (H : Hp) : Prop := ∃ (b : Addr) (k : List L2.Key), x = .ref b ∧ H b = some (.tup (k.map kV)) ∧ H p = some (.dT []) ∧ Q (.ref p) (upd H p (.dT [(k, y)]))
def tDisp1T (tk tv : TE) : TE := fun σ H Q => ∀ p, H p = none → tk σ (upd H p (.dT [])) fun x H1 => tv σ H1 fun y H2 => Dsp1T Q p x y H2
theorem pe_disp1T {pos : Pos} {ke ve : Expr} (hu : X.A.units + 1 < cLine) (hk : PE X ke tk) (hv : PE X ve tv) : PE X (.Dict [some ke] [ve] pos) (tDisp1T tk tv) := by
  refine ⟨fun pins s σ H Q I q => ?_⟩
  have hn := I.hok.fresh (Nat.le_refl s.heap.objs.size)
  have I1 := I.laid (a := s.heap.objs.size) (o := .dT []) (h' := s.heap.push { cls := .type "dict", data := .dict #[] }) (t' := s.toks) (fun _ _ q => Heap.get?_push_of_some _ q) (Nat.le_refl _) (dt_empty s.heap I.big)
  rw [arm_eval_Dict, zip_pairTrees [some ke] [ve] X.env pos rfl rfl, dictDisplay_pairs _ (by simp [pairTrees]) (by show 1 < 17; decide)]
  refine wpAny_bind (wpAny_standAt (wpAny_bind (wpAny_subDictH (knd := tupleKind (mixKind X.prog X.w)) (Q := fun d s' => wpAny (model X.prog X.w) X.A (pure (Value.ref d)) (EP X pins σ Q) X.xe s') (show X.A.units < cLine by omega) (by show 1 ≤ 15; decide) ?_)))
  refine pairTrees_cons_walk (thn (hk.run pins _ σ _ _ I1 (q _ hn)) fun u s1 ⟨x, H1, I2, rx, q1⟩ => thn (hv.run pins s1 σ H1 _ I2 q1) fun w2 s2 ⟨y, H2, I3, ry, b, k, ex, eb, ep, q2⟩ => pairTrees_nil_walk ?_)
  subst ex
  obtain rfl : u = Value.ref b := rx
  obtain ⟨zz, hd, xs, rel, dd⟩ := dt_of I3.hok ep
  have ex : xs = [] := by cases rel; rfl
  subst ex
  refine ⟨[(k, b, w2)], ⟨rfl, rfl, key_of I3.hok eb, trivial⟩, dd, fun h' tk dd' hs => wpAny_pure ⟨.ref s.heap.objs.size, upd H2 s.heap.objs.size (.dT [(k, y)]), ?_, rfl, q2⟩⟩
  obtain ⟨o, es, ep', hq, g2, g3, g4, g4', g5⟩ := dd'
  refine d_write I3 (by rw [ep]; exact True.intro) hs ⟨o, hq⟩ ⟨by show 1 ≤ sizeLine; decide, hd, _, (rel.put k eb ry).keeps fun c ys ec => ?_, o, es, ep', hq, g2, g3, g4, g5⟩
  rw [upd_ne (ne_of ec ep (fun z => nomatch z))]
  exact ec
theorem k_disp1T (z : Zs R H Ho) (k : ∀ p H', Zs ([(p, HO.dT [])] ++ R) H' Ho → tk σ H' fun x H1 => tv σ H1 fun y H2 => Dsp1T Q p x y H2) : tDisp1T tk tv σ H Q := fun p hp => k p _ (z.root hp)
theorem g_disp1T {p : Addr} {k : P4 Int Int Int Int} {a : α} (z : Zs ([(p, HO.dT [])] ++ R) H Ho) (dk : Z.D K Ho v k) (dv : Z.D K Ho w a) (kk : ∀ g H', Zs (g ++ R) H' Ho → OD K Ho (.ref p) ([(k, a)] : Dc (P4 Int Int Int Int) α) g → Q (.ref p) H') : Dsp1T Q p v w H := by
  cases dk with
  | tup hs ha =>
    cases ha with
    | cons h1 ha => cases ha with
      | cons h2 ha => cases ha with
        | cons h3 ha => cases ha with
          | cons h4 ha =>
            cases ha
            rw [d_int h1, d_int h2, d_int h3, d_int h4] at hs
            exact ⟨_, [.inl k.a, .inl k.b, .inl k.c, .inl k.d], rfl, z.le _ _ hs, z.head, kk _ _ z.put ⟨p, [(_, w)], rfl, ⟨rfl, .cons dv .nil⟩, rfl⟩⟩
def Dsp1K (Q : VK) (p : Addr) (x y : V) (H : Hp) : Prop := H p = some (.dK []) ∧ ∃ kvs : List (L2.Key × V), [(x, y)] = kvs.map (fun kv => (kV kv.1, kv.2)) ∧ kvs.length ≤ 15 ∧ Q (.ref p) (upd H p (.dK (mergeK [] kvs)))
theorem k_disp1K (z : Zs R H Ho) (k : ∀ p H', Zs ([(p, HO.dK [])] ++ R) H' Ho → tk σ H' fun x H1 => tv σ H1 fun y H2 => Dsp1K Q p x y H2) : tDisp [(tk, tv)] σ H Q := fun p hp => k p _ (z.root hp)
theorem g_disp1K {p : Addr} {i : Int} {a : α} (z : Zs ([(p, HO.dK [])] ++ R) H Ho) (dv : Z.D K Ho w a) (kk : ∀ g H', Zs (g ++ R) H' Ho → OD K Ho (.ref p) ([(i, a)] : Dc Int α) g → Q (.ref p) H') : Dsp1K Q p (.int i) w H :=
  ⟨z.head, [(.inl i, w)], rfl, by show 1 ≤ 15; decide, kk _ _ z.put ⟨p, [(.inl i, w)], rfl, ⟨rfl, .cons dv .nil⟩, rfl⟩⟩
theorem pe_disp1K {pos : Pos} {ke ve : Expr} (hk : PE X ke tk) (hv : PE X ve tv) : PE X (.Dict [some ke] [ve] pos) (tDisp [(tk, tv)]) := pe_disp (pps_cons hk hv pps_nil) rfl rfl (by simp) (by show 1 ≤ 15; decide)
end
/-! xs.remove(x) of four ints -/
section
theorem plain4 {x : P4 Int Int Int Int} : PyData.plain (toPy x) = true := rfl
theorem plain4s : ∀ {xs : List (P4 Int Int Int Int)}, PyData.plainAll (xs.map Py.toPy) = true
  | [] => rfl
  | x :: xs => by
    show (PyData.plain (toPy x) && PyData.plainAll (xs.map Py.toPy)) = true
    rw [plain4, plain4s (xs := xs)]; rfl
theorem lay4s : ∀ {xs : List (P4 Int Int Int Int)}, PyData.canLayAll0 (xs.map Py.toPy) = true
  | [] => rfl
  | x :: xs => by
    show (PyData.canLay0 (toPy x) && PyData.canLayAll0 (xs.map Py.toPy)) = true
    rw [lay4s (xs := xs), Bool.and_true]; rfl
theorem depth4s {xs : List (P4 Int Int Int Int)} {x : P4 Int Int Int Int} : min (PyData.depthAll (xs.map Py.toPy)) (toPy x).depth ≤ 10 := Nat.le_trans (Nat.min_le_right _ _) (Nat.le_of_ble_eq_true rfl)
def rem4 (xs : List (P4 Int Int Int Int)) (x : P4 Int Int Int Int) : W (List (P4 Int Int Int Int)) := W.bind (W.opt (xs.findIdx? fun y => eqD y x)) fun j => W.ret (xs.eraseIdx j)
def rRem4 (K : PySem.W.Frag) : V → List V → Hp → VK → Prop := fun v vs H Q => ∃ (l : Addr) (u : V) (ws : List V) (x : P4 Int Int Int Int) (xs : List (P4 Int Int Int Int)) (j : Nat), v = .ref l ∧ vs = [u] ∧ H l = some (.lst ws) ∧ Z.D K H u x ∧ DL K H ws xs ∧ (xs.findIdx? fun y => eqD y x) = some j ∧ Q .non (upd H l (.lst (ws.eraseIdx j)))
variable {X : Cx} {K : PySem.W.Frag} {H Ho : Hp} {R : Grp} {Q : VK} {v w : V} {γ : Type} {Φ : γ → Prop}
theorem mt_rem4 (hu : X.A.units + 65 < cLine) : MtM X "list.remove" (rRem4 X.K) := by
  intro pins s σ H v vs u us Q I rx rv h
  obtain ⟨l, w, ws, x, xs, j, rfl, rfl, hH, dx, dl, hj, q⟩ := h
  cases rx
  obtain ⟨uy, rfl, ru⟩ := rv.one
  obtain ⟨z, its, n, r, hl, e⟩ := I.lstM hH
  obtain ⟨bs, r1⟩ := Dp.reads I _ _ uy (Dq.dp _ _ rfl dx) ru
  obtain ⟨as, r2⟩ := Dp.readsAll I _ _ its (DqAll.dp _ _ lay4s dl) r
  have hL : s.heap.IsList l its.toArray := ⟨_, e, rfl, _, rfl⟩
  have hp : PySem.SeqAt.dataPlace (xs.map Py.toPy) (toPy x) = some j := by
    unfold PySem.SeqAt.dataPlace
    rw [List.findIdx?_map]
    exact hj
  refine PySem.SeqAt.remove_list_data hL r2 r1 plain4s plain4 (by have := depth4s (xs := xs) (x := x); show X.A.units + 1 + _ < _; omega) hp (by rw [List.size_toArray]; omega) ?_
  refine ⟨.non, _, I.lset (its' := its.eraseIdx j) hH e ?_ (r.eraseIdx j) ?_, rfl, q⟩
  · show its.toArray.eraseIdxIfInBounds j = (its.eraseIdx j).toArray
    rw [List.eraseIdxIfInBounds_toArray]
  · have := List.length_eraseIdx_le its j
    have := List.length_eraseIdx_le ws j
    omega
theorem zmt_rem4 (hK : X.K = K) (hu : X.A.units + 65 < cLine) : MtM X "list.remove" (rRem4 K) := hK ▸ mt_rem4 hu
theorem g_rem4 {x : P4 Int Int Int Int} {xs : List (P4 Int Int Int Int)} {g : Grp} {f : List (P4 Int Int Int Int) → W γ} (z : Zs (g ++ R) H Ho) (o : OL K Ho v xs g) (dx : Z.D K Ho w x) (hw : (W.bind (rem4 xs x) f).run Φ) (k : ∀ xs' g' H', Zs (g' ++ R) H' Ho → OL K Ho v xs' g' → (f xs').run Φ → Q .non H') : rRem4 K v [w] H Q := by
  obtain ⟨p, vs, rfl, d, rfl⟩ := o
  obtain ⟨j, hj, hw⟩ := hw
  refine ⟨p, w, vs, x, xs, j, rfl, rfl, z.head, D.mo dx z.le, DL.mo d z.le, hj, k _ _ _ z.put ⟨p, _, rfl, ?_, rfl⟩ hw⟩
  show DqAll _ _ _ ((xs.eraseIdx j).map Py.toPy)
  rw [map_erase]
  exact dpAll_erase d j
end
/-! None, True or False -/
section
variable {K : PySem.W.Frag} {H Ho : Hp} {Q : VK} {v : V}
def rIsOB : R2 := fun x y H Q => ∃ t : Bool, y = .bl t ∧ ((x = .non ∧ Q (.bl false) H) ∨ ∃ a, x = .bl a ∧ Q (.bl (decide (a = t))) H)
def rNotOB : R2 := fun x y H Q => ∃ t : Bool, y = .bl t ∧ ((x = .non ∧ Q (.bl true) H) ∨ ∃ a, x = .bl a ∧ Q (.bl (!decide (a = t))) H)
theorem op_isOB {X : Cx} : OpR X (compareOp .Is) rIsOB := by
  intro pins s σ H x y v u Q I rx ry h
  obtain ⟨t, rfl, ⟨rfl, q⟩ | ⟨a, rfl, q⟩⟩ := h
  · cases (show v = Value.none from rx)
    cases (show u = Value.bool t from ry)
    exact wpAny_is_other rfl (fun z => nomatch z) ⟨.bl false, H, I, rfl, q⟩
  · exact op_isBl pins s σ H _ _ v u Q I rx ry ⟨a, t, rfl, rfl, q⟩
theorem op_notOB {X : Cx} : OpR X (compareOp .IsNot) rNotOB := by
  intro pins s σ H x y v u Q I rx ry h
  obtain ⟨t, rfl, ⟨rfl, q⟩ | ⟨a, rfl, q⟩⟩ := h
  · cases (show v = Value.none from rx)
    cases (show u = Value.bool t from ry)
    exact wpAny_isNot_other rfl (fun z => nomatch z) ⟨.bl true, H, I, rfl, q⟩
  · exact op_notBl pins s σ H _ _ v u Q I rx ry ⟨a, t, rfl, rfl, q⟩
theorem y_isOB {o : Option Bool} {t : Bool} (d : Z.D K Ho v o) (k : Q (.bl (decide (o = some t))) H) : rIsOB v (.bl t) H Q := by
  cases o with
  | none => cases (d : Dq K Ho v .none); exact ⟨t, rfl, .inl ⟨rfl, k⟩⟩
  | some a => cases (d : Dq K Ho v (.bool a)); exact ⟨t, rfl, .inr ⟨a, rfl, by simpa using k⟩⟩
theorem y_notOB {o : Option Bool} {t : Bool} (d : Z.D K Ho v o) (k : Q (.bl (!decide (o = some t))) H) : rNotOB v (.bl t) H Q := by
  cases o with
  | none => cases (d : Dq K Ho v .none); exact ⟨t, rfl, .inl ⟨rfl, k⟩⟩
  | some a => cases (d : Dq K Ho v (.bool a)); exact ⟨t, rfl, .inr ⟨a, rfl, by simpa using k⟩⟩
end
end Z

/-! # the least of a list of tuples of four ints, None where there is none -/
namespace Z
open PySem PySem.Spec PyProof.Rows L2
abbrev N4 := P4 Int Int Int Int
def tup4 (x : N4) : PySem.W.Tup Int := ⟨[x.a, x.b, x.c, x.d]⟩
def lt4 (x y : N4) : Bool := PySem.W.DatumOrd.lt (tup4 x) (tup4 y)
def mn4 : List N4 → Option N4
  | [] => none
  | x :: xs => some (xs.foldl (fun a y => if lt4 y a = true then y else a) x)
theorem minOf4 : ∀ (xs : List N4) (x : N4), PySem.W.minOf (tup4 x) (xs.map tup4) = tup4 (xs.foldl (fun a y => if lt4 y a = true then y else a) x)
  | [], _ => rfl
  | y :: ys, x => by
    have ih := minOf4 ys (if lt4 y x = true then y else x)
    unfold PySem.W.minOf at ih ⊢
    rw [List.map_cons, List.foldl_cons, List.foldl_cons, ← ih]
    congr 1
    show (if lt4 y x = true then tup4 y else tup4 x) = _
    split <;> rfl
theorem tup4_inj {x y : N4} (h : tup4 x = tup4 y) : x = y := by
  obtain ⟨a, b, c, d⟩ := x
  obtain ⟨a', b', c', d'⟩ := y
  injection h with h
  simp only [List.cons.injEq, and_true] at h
  obtain ⟨h1, h2, h3, h4⟩ := h
  rw [h1, h2, h3, h4]
theorem toD4 {x : N4} : PySem.W.Datum.toD (tup4 x) = toPy x := rfl
def rMn4 (K : PySem.W.Frag) : List V → List V → Hp → VK → Prop := fun vs zs H Q => ∃ (a : Addr) (ws : List V) (xs : List N4), vs = [.ref a] ∧ zs = [.non] ∧ SqL K H a ws ∧ DL K H ws xs ∧ (xs = [] → Q .non H) ∧ ∀ (i : Nat) (w : V) (x : N4), ws[i]? = some w → xs[i]? = some x → mn4 xs = some x → Q w H
section
variable {X : Cx} {K : PySem.W.Frag} {H Ho : Hp} {R rs : Grp} {Q : VK} {v : V}
theorem zmn4 (hK : X.K = K) (hc : X.calm = true) (hu : X.A.units + 64 < cLine) : CallRK X (.builtin "min") [Str.ofString "default"] (rMn4 K) := by
  subst hK
  intro pins s σ H vs zs us ws Q I r rz h
  obtain ⟨a, wv, xs, rfl, rfl, hs, dl, q0, q⟩ := h
  obtain rfl := Vals.ref1 r
  obtain ⟨w1, rfl, rw1⟩ := vals1 rz
  cases (show w1 = Value.none from rw1)
  obtain ⟨its, rv, hl, hz⟩ := I.list hs
  obtain ⟨as, ra⟩ := Dp.readsAll I _ _ its (DqAll.dp _ _ lay4s dl) rv
  have hold : PySem.W.HoldAll s.heap its (xs.map tup4) := ⟨as, by rw [List.map_map]; exact ra⟩
  refine PySem.W.min_list_datum_default (α := PySem.W.Tup Int) (xs := xs.map tup4) (I.ok.hd hc) hl.isList hold (by show X.A.units + 1 + 1 < cLine; omega) (fun e h' tk k => ⟨.non, H, I.kept (t' := tk) k, rfl, q0 (List.map_eq_nil_iff.mp e)⟩) fun y ys i v h' tk e hi hh k => ?_
  have hi' : its[i]? = some v := by simpa using hi
  obtain ⟨t, ht, ho⟩ := hold.at hi'
  rw [List.getElem?_map] at ht
  cases ex : xs[i]? with
  | none => rw [ex] at ht; cases ht
  | some x =>
    rw [ex] at ht
    cases ht
    have hx := (List.getElem?_eq_some_iff.mp ex).1
    have hl1 : wv.length = xs.length := DL.len dl
    obtain ⟨w, hw⟩ : ∃ w, wv[i]? = some w := ⟨_, List.getElem?_eq_getElem (by omega)⟩
    obtain ⟨u, hu1, ru⟩ := Vals.get rv hw
    rw [hi'] at hu1
    cases hu1
    refine ⟨w, H, I.kept (t' := tk) k, ru, q i w x hw ex ?_⟩
    cases xs with
    | nil => cases e
    | cons z zs =>
      rw [List.map_cons] at e
      injection e with e1 e2
      subst e1 e2
      obtain ⟨bs, r1⟩ := ho.keeps k
      obtain ⟨cs, r2⟩ := hh
      have := PySem.SeqAt.Reads.unique _ _ _ _ _ (show (PySem.W.Datum.toD (tup4 x)).canLay0 = true from rfl) r1 r2
      rw [minOf4] at this
      show some _ = some x
      congr 1
      refine (tup4_inj ?_).symm
      have e3 : ∀ a b : PySem.W.Tup Int, PySem.W.Datum.toD a = PySem.W.Datum.toD b → a = b := fun a b h => by
        have := PySem.W.Datum.eqv a b
        rw [h, PySem.W.Datum.eqv b b, decide_eq_true rfl] at this
        exact of_decide_eq_true this.symm
      exact e3 _ _ this
theorem y_mn4 {xs : List N4} (d : LV K rs Ho v xs) (z : Zs rs H Ho) (k : ∀ w, Z.D K Ho w (mn4 xs) → Q w H) : rMn4 K [v] [.non] H Q := by
  obtain ⟨p, vs, rfl, d1, s⟩ := LV.rd d z
  refine ⟨p, vs, xs, rfl, rfl, s, DL.mo d1 z.le, fun e => ?_, fun i w x hw hx e => ?_⟩
  · subst e; exact k _ Dq.non
  · refine k w ?_
    rw [e]
    have := dpAll_get d1 (i := i) (d := toPy x) (by rw [List.getElem?_map, hx]; rfl)
    obtain ⟨u, hu, du⟩ := this
    rw [hw] at hu
    cases hu
    exact du
end
end Z

/-! # len(range(n)) -/
namespace Z
open PySem PySem.Spec PyProof.Rows L2
def tLenRg (te : L2.St → Hp → (Int → Int → Hp → Prop) → Prop) : TE := fun σ H Q => te σ H fun a b H1 => RgOk a b ∧ Q (.int ((b - a).toNat : Nat)) H1
section
variable {X : Cx} {e : Expr} {te : L2.St → Hp → (Int → Int → Hp → Prop) → Prop} {σ : L2.St} {H : Hp} {Q : VK}
theorem pe_lenRg {p pos : Pos} (hg : Gl X "len") (hm : X.mg "len" = none) (hv : bootBuiltins "len" = some (.builtin "len")) (he : PRg X e te) (na : starEach [e] X.env = (false, eval e X.env) :: starEach [] X.env := by rfl) : PE X (.Call (.Name "len" p) [e] [] pos) (tLenRg te) := by
  refine ⟨fun pins s σ H Q I h => ?_⟩
  refine Call_ (ld_blt I hg hm hv (PyProof.Rows.callWith_builtin1 (args_cons (thn (he pins s σ H _ I h) fun x s1 ⟨r, a, b, t, u, v, H1, ex, hr, I1, ok, q⟩ => args_nil ?_) na) na) (by decide) (by decide))
  subst ex
  obtain ⟨b1, b2, b3, b4, b5⟩ := ok
  refine call_len_range (n := (b - a).toNat) hr (rangeSize_nat a b) (by omega) ?_
  exact ⟨.int _, H1, I1.tok _, ⟨_, rfl⟩, q⟩
theorem k_lenRg (k : te σ H fun a b H1 => RgOk a b ∧ Q (.int ((b - a).toNat : Nat)) H1) : tLenRg te σ H Q := k
end
end Z

/-! # for x in reversed(range(n)) -/
namespace Z
open PySem PySem.Spec PyProof.Rows L2
def SrcRR (R : It → Hp → Prop) : V → Hp → Prop := fun x H1 => ∃ n, x = .int n ∧ -(2 ^ 62) ≤ (0 : Int) ∧ (0 : Int) < 2 ^ 62 ∧ -(2 ^ 62) ≤ n ∧ n < 2 ^ 62 ∧ R (Itc (0 + (((n - 0).toNat : Nat) : Int) - 1) (-1) (n - 0).toNat) H1
section
variable {K : PySem.W.Frag} {H Ho : Hp} {σ : L2.St} {R : It → Hp → Prop} {ta : TE}
theorem k_iRR (k : ta σ H (SrcRR R)) : iRevR (tRg1 ta) σ H R := k
theorem k_srcRR {n : Int} (hg : rngOk 0 n) (k : ∀ J, Trn K [] J (rngD (n - 1) (-1)) Ho → R J H) : SrcRR R (V.int n) H := by
  refine ⟨n, rfl, hg.1, hg.2.1, hg.2.2.1, hg.2.2.2, k _ ?_⟩
  by_cases h : 0 ≤ n
  · have e1 : 0 + (((n - 0).toNat : Nat) : Int) - 1 = n - 1 := by omega
    have e2 : (n - 0).toNat = (n - 1 - (-1)).toNat := by congr 1; omega
    rw [e1, e2]
    exact trn_rangeD
  · have e1 : 0 + (((n - 0).toNat : Nat) : Int) - 1 = -1 := by omega
    have e2 : (n - 0).toNat = ((-1 : Int) - (-1)).toNat := by rw [show n - 0 = n by omega]; omega
    have e3 : rngD (n - 1) (-1) = rngD (-1) (-1) := by unfold rngD; rw [show (n - 1 - (-1)).toNat = ((-1 : Int) - (-1)).toNat by omega]; simp
    rw [e1, e2, e3]
    exact trn_rangeD
theorem zpi_revR {X : Cx} {tg a : Expr} {ta : TE} {p pos p2 pos2 : Pos} (hg : Gl X "reversed") (hm : X.mg "reversed" = none) (hg2 : Gl X "range") (hm2 : X.mg "range" = none) (ha : PE X a ta)
    (na : starEach [a] X.env = (false, eval a X.env) :: starEach [] X.env := by rfl) (hs : starEach [Expr.Call (.Name "range" p2) [a] [] pos2] X.env = (false, eval (.Call (.Name "range" p2) [a] [] pos2) X.env) :: starEach [] X.env := by rfl) :
    PI X tg (.Call (.Name "reversed" p) [.Call (.Name "range" p2) [a] [] pos2] [] pos) (iRevR (tRg1 ta)) := pi_revR hg hm (prg_1 hg2 hm2 ha na) hs
end
end Z

/-! # zip(xs, ys, strict=True) over two lists of one length -/
namespace PySem
open Sem (wp)
abbrev IsZipS (h : Heap) (z TI TO : Addr) (f0 : Value) : Prop :=
  h.get? z = some { cls := .type "zip", dict := none, data := .fields #[f0, .bool false, .bool true, .ref TI, .ref TO], slots := #[] }
section
variable {prog : Program} {w : World} {A : Around} {E : Value → Shared → Prop} {s : Shared}
theorem wpAny_nextOrEnd_item {it l : Addr} {i : Nat} {items} {x : Value} {Q : Option Value → Shared → Prop} (hit : s.heap.IsListIter it l i) (hl : s.heap.IsList l items) (hx : items[i]? = some x)
    (hQ : ∀ h', h'.IsListIter it l (i + 1) → Heap.SameBut it s.heap h' → Q (some x) { s with heap := h' }) : wpAny (model prog w) A (Builtin.SmallTypes.nextOrEnd (.ref it)) Q E s := by
  unfold Builtin.SmallTypes.nextOrEnd
  exact wpAny_bind (wpAny_attempt (wpAny_nextOf_list_item hit hl hx fun h' a b => wpAny_pure (hQ h' a b)))
theorem wpAny_nextOrEnd_end {it l : Addr} {i : Nat} {items} {Q : Option Value → Shared → Prop} (hh : A.handled = none) (hit : s.heap.IsListIter it l i) (hl : s.heap.IsList l items) (hx : items[i]? = none)
    (hQ : ∀ h', Heap.ExtBut it s.heap h' → Q none { s with heap := h' }) : wpAny (model prog w) A (Builtin.SmallTypes.nextOrEnd (.ref it)) Q E s := by
  unfold Builtin.SmallTypes.nextOrEnd
  refine wpAny_bind (wpAny_attempt (wpAny_nextOf_list_end hh hit hl hx fun h' e hb he => ?_))
  obtain ⟨o, ho, hc⟩ := he
  refine wpAny_bind (wpAny_isInstance (T := "StopIteration") (b := true) ⟨o, ho, hc⟩ isSubtype_stop ?_)
  exact wpAny_pure (hQ h' hb)
theorem zipS_next_item {z TI TO i1 i2 l1 l2 : Addr} {k1 k2 : Nat} {xs ys : Array Value} {x y a b : Value} {Q : Value → Shared → Prop} (D : ZipApart z TI TO i1 i2 l1 l2)
    (hz : IsZipS s.heap z TI TO .none) (hTI : IsPair s.heap TI (.ref i1) (.ref i2)) (hTO : IsPair s.heap TO a b)
    (h1 : s.heap.IsListIter i1 l1 k1) (h2 : s.heap.IsListIter i2 l2 k2) (hl1 : s.heap.IsList l1 xs) (hl2 : s.heap.IsList l2 ys) (hx : xs[k1]? = some x) (hy : ys[k2]? = some y)
    (hQ : ∀ h', IsZipS h' z TI TO (rawInt s.heap.objs.size) → IsPair h' TO x y → h'.IsListIter i1 l1 (k1 + 1) → h'.IsListIter i2 l2 (k2 + 1) → IsPair h' s.heap.objs.size x y → h'.objs.size = s.heap.objs.size + 1 →
      (∀ c o, c ≠ z → c ≠ TO → c ≠ i1 → c ≠ i2 → s.heap.get? c = some o → h'.get? c = some o) → Q (.ref s.heap.objs.size) { s with heap := h' }) :
    wpAny (model prog w) A (Builtin.«zip.__next__» ⟨[.ref z], []⟩) (fun fin s' => ∃ v, fin = .done (.ret v) ∧ Q v s') E s := by
  show wpAny _ _ (field (.ref z) 2 >>= _) _ _ _
  refine wpAny_bind (wpAny_field hz rfl (x := .bool true) rfl ?_)
  show wpAny _ _ (field (.ref z) 3 >>= _) _ _ _
  refine wpAny_bind (wpAny_field hz rfl (x := .ref TI) rfl ?_)
  refine wpAny_bind (wpAny_seqItems hTI rfl ?_)
  show wpAny _ _ (Builtin.SmallTypes.ownedTupleIsFree (.ref z) >>= _) _ _ _
  refine wpAny_bind ?_
  unfold Builtin.SmallTypes.ownedTupleIsFree
  refine wpAny_bind (wpAny_field hz rfl (x := .none) rfl (wpAny_pure ?_))
  simp only [if_true]
  refine wpAny_bind (wpAny_rule ?_)
  refine wpAny_bind (wpAny_field hz rfl (x := .ref TO) rfl ?_)
  refine wpAny_bind (wpAny_setField_rec hz (by simp) fun h₁ hz₁ hs₁ => ?_)
  replace hz₁ : IsZipS h₁ z TI TO .ellipsis := hz₁
  refine wpAny_bind ?_
  simp only [List.zipIdx_cons, List.zipIdx_nil, List.forIn_cons, List.forIn_nil]

  refine wpAny_bind (wpAny_bind (wpAny_onRaise ?_))
  show wpAny _ _ (Builtin.SmallTypes.nextOrEnd (.ref i1)) _ _ _
  refine wpAny_nextOrEnd_item (h1.extBut hs₁.extBut D.i1z) (hl1.extBut hs₁.extBut D.l1z) hx fun h₂ h1₂ hs₂ => ?_
  have hTO₂ : IsPair h₂ TO a b := hs₂.extBut _ _ D.TOi1 (hs₁.extBut _ _ D.TOz hTO)
  refine wpAny_bind (wpAny_seqItems hTO₂ rfl ?_)
  refine wpAny_bind (wpAny_updateSeq_pair hTO₂ fun h₃ hTO₃ hs₃ => ?_)
  replace hTO₃ : IsPair h₃ TO x b := hTO₃
  refine wpAny_bind (wpAny_letGo (wpAny_pure ?_))

  refine wpAny_bind (wpAny_bind (wpAny_onRaise ?_))
  show wpAny _ _ (Builtin.SmallTypes.nextOrEnd (.ref i2)) _ _ _
  refine wpAny_nextOrEnd_item (((h2.extBut hs₁.extBut D.i2z).extBut hs₂.extBut D.i12.symm).extBut hs₃.extBut D.TOi2.symm)
    (((hl2.extBut hs₁.extBut D.l2z).extBut hs₂.extBut D.l2i1).extBut hs₃.extBut D.l2TO) hy fun h₄ h2₄ hs₄ => ?_
  have hTO₄ : IsPair h₄ TO x b := hs₄.extBut _ _ D.TOi2 hTO₃
  refine wpAny_bind (wpAny_seqItems hTO₄ rfl ?_)
  refine wpAny_bind (wpAny_updateSeq_pair hTO₄ fun h₅ hTO₅ hs₅ => ?_)
  replace hTO₅ : IsPair h₅ TO x y := hTO₅
  refine wpAny_bind (wpAny_letGo (wpAny_pure (wpAny_pure ?_)))

  refine wpAny_bind (wpAny_seqItems hTO₅ rfl ?_)
  refine wpAny_bind (wpAny_newTuple ?_)
  have hsz : h₅.objs.size = s.heap.objs.size := by rw [hs₅.1, hs₄.1, hs₃.1, hs₂.1, hs₁.1]
  have hz₅ : IsZipS h₅ z TI TO .ellipsis := hs₅.extBut _ _ D.TOz.symm (hs₄.extBut _ _ D.i2z.symm (hs₃.extBut _ _ D.TOz.symm (hs₂.extBut _ _ D.i1z.symm hz₁)))
  have hk₅ : ∀ c o, c ≠ z → c ≠ TO → c ≠ i1 → c ≠ i2 → s.heap.get? c = some o → h₅.get? c = some o := fun c o c1 c2 c3 c4 e =>
    hs₅.extBut _ _ c2 (hs₄.extBut _ _ c4 (hs₃.extBut _ _ c2 (hs₂.extBut _ _ c3 (hs₁.extBut _ _ c1 e))))
  have h1₅ : h₅.IsListIter i1 l1 (k1 + 1) := ((h1₂.extBut hs₃.extBut D.TOi1.symm).extBut hs₄.extBut D.i12).extBut hs₅.extBut D.TOi1.symm
  have h2₅ : h₅.IsListIter i2 l2 (k2 + 1) := h2₄.extBut hs₅.extBut D.TOi2.symm
  have hzlt : z < h₅.objs.size := Heap.lt_size hz₅
  have hTOlt : TO < h₅.objs.size := Heap.lt_size hTO₅
  have hi1lt : i1 < h₅.objs.size := by obtain ⟨_, e, _⟩ := h1₅; exact Heap.lt_size e
  have hi2lt : i2 < h₅.objs.size := by obtain ⟨_, e, _⟩ := h2₅; exact Heap.lt_size e
  show wpAny _ _ (Builtin.SmallTypes.ownedTupleHandOut (.ref z) (.ref h₅.objs.size) >>= _) _ _ _
  refine wpAny_bind ?_
  unfold Builtin.SmallTypes.ownedTupleHandOut
  have hz₆ : IsZipS (h₅.push { cls := .type "tuple", data := .seq #[x, y] }) z TI TO .ellipsis := Heap.get?_push_of_some _ hz₅
  refine wpAny_bind (wpAny_setField_rec hz₆ (by simp) fun h₇ hz₇ hs₇ => ?_)
  replace hz₇ : IsZipS h₇ z TI TO (rawInt h₅.objs.size) := hz₇
  refine wpAny_setField_rec hz₇ (by simp) fun h₈ hz₈ hs₈ => ?_
  replace hz₈ : IsZipS h₈ z TI TO (rawInt h₅.objs.size) := hz₈
  have up : ∀ c o, c ≠ z → h₅.get? c = some o → h₈.get? c = some o := fun c o c1 e => hs₈.extBut _ _ c1 (hs₇.extBut _ _ c1 (Heap.get?_push_of_some _ e))
  have hT₈ : IsPair h₈ h₅.objs.size x y := hs₈.extBut _ _ (Nat.ne_of_gt hzlt) (hs₇.extBut _ _ (Nat.ne_of_gt hzlt) (Heap.get?_push_size _ rfl))
  have hz8 : h₈.objs.size = h₅.objs.size + 1 := by rw [hs₈.1, hs₇.1, Heap.size_push]
  rw [hsz] at hz₈ hT₈ hz8
  refine wpAny_pure ⟨_, rfl, ?_⟩
  show Q (.ref h₅.objs.size) _
  rw [hsz]
  exact hQ h₈ hz₈ (up _ _ D.TOz hTO₅) (h1₅.at fun o e => up _ o D.i1z e) (h2₅.at fun o e => up _ o D.i2z e) hT₈ hz8 fun c o c1 c2 c3 c4 e => up c o c1 (hk₅ c o c1 c2 c3 c4 e)
theorem zipS_next_end {z TI TO i1 i2 l1 l2 : Addr} {k1 k2 : Nat} {xs ys : Array Value} {a b : Value} {Q : Fin → Shared → Prop} (hh : A.handled = none) (D : ZipApart z TI TO i1 i2 l1 l2)
    (hz : IsZipS s.heap z TI TO .none) (hTI : IsPair s.heap TI (.ref i1) (.ref i2)) (hTO : IsPair s.heap TO a b)
    (h1 : s.heap.IsListIter i1 l1 k1) (h2 : s.heap.IsListIter i2 l2 k2) (hl1 : s.heap.IsList l1 xs) (hl2 : s.heap.IsList l2 ys) (hx : xs[k1]? = none) (hy : ys[k2]? = none)
    (hE : ∀ h' e, (∀ c o, c ≠ z → c ≠ TO → c ≠ i1 → c ≠ i2 → s.heap.get? c = some o → h'.get? c = some o) → (∃ o, h'.get? e = some o ∧ o.cls = .type "StopIteration") → E (.ref e) { s with heap := h' }) :
    wpAny (model prog w) A (Builtin.«zip.__next__» ⟨[.ref z], []⟩) Q E s := by
  show wpAny _ _ (field (.ref z) 2 >>= _) _ _ _
  refine wpAny_bind (wpAny_field hz rfl (x := .bool true) rfl ?_)
  show wpAny _ _ (field (.ref z) 3 >>= _) _ _ _
  refine wpAny_bind (wpAny_field hz rfl (x := .ref TI) rfl ?_)
  refine wpAny_bind (wpAny_seqItems hTI rfl ?_)
  show wpAny _ _ (Builtin.SmallTypes.ownedTupleIsFree (.ref z) >>= _) _ _ _
  refine wpAny_bind ?_
  unfold Builtin.SmallTypes.ownedTupleIsFree
  refine wpAny_bind (wpAny_field hz rfl (x := .none) rfl (wpAny_pure ?_))
  simp only [if_true]
  refine wpAny_bind (wpAny_rule ?_)
  refine wpAny_bind (wpAny_field hz rfl (x := .ref TO) rfl ?_)
  refine wpAny_bind (wpAny_setField_rec hz (by simp) fun h₁ hz₁ hs₁ => ?_)
  replace hz₁ : IsZipS h₁ z TI TO .ellipsis := hz₁
  refine wpAny_bind ?_
  simp only [List.zipIdx_cons, List.zipIdx_nil, List.forIn_cons, List.forIn_nil]
  refine wpAny_bind (wpAny_bind (wpAny_onRaise ?_))
  show wpAny _ _ (Builtin.SmallTypes.nextOrEnd (.ref i1)) _ _ _
  refine wpAny_nextOrEnd_end hh (h1.extBut hs₁.extBut D.i1z) (hl1.extBut hs₁.extBut D.l1z) hx fun h₂ hs₂ => ?_
  have hz₂ : IsZipS h₂ z TI TO .ellipsis := hs₂ _ _ D.i1z.symm hz₁
  refine wpAny_bind (wpAny_setField_rec hz₂ (by simp) fun h₃ hz₃ hs₃ => ?_)
  have h2₃ : h₃.IsListIter i2 l2 k2 := ((h2.extBut hs₁.extBut D.i2z).extBut hs₂ D.i12.symm).extBut hs₃.extBut D.i2z
  have hl2₃ : h₃.IsList l2 ys := ((hl2.extBut hs₁.extBut D.l2z).extBut hs₂ D.l2i1).extBut hs₃.extBut D.l2z
  wp_walk using wpAny_nextOrEnd_end hh h2₃ hl2₃ hy
  intro h₄ hs₄
  rw [if_neg (by decide)]
  wp_walk
  simp only [raiseNew]
  refine wpAny_bind (wpAny_handled ?_)
  rw [show A.handled = none from hh]
  refine wpAny_bind (wpAny_pure (wpAny_throw ?_))
  refine hE _ _ (fun c o c1 _ c3 c4 e => ?_) ⟨_, Heap.get?_push_size _ rfl, rfl⟩
  exact Heap.get?_push_of_some _ (Heap.get?_push_of_some _ (hs₄ _ _ c4 (hs₃.extBut _ _ c1 (hs₂ _ _ c3 (hs₁.extBut _ _ c1 e)))))
theorem wpAny_pyNext_zipS_item {z TI TO i1 i2 l1 l2 : Addr} {k1 k2 : Nat} {xs ys : Array Value} {x y a b : Value} {Q : Option Value → Shared → Prop} (D : ZipApart z TI TO i1 i2 l1 l2)
    (hz : IsZipS s.heap z TI TO .none) (hTI : IsPair s.heap TI (.ref i1) (.ref i2)) (hTO : IsPair s.heap TO a b)
    (h1 : s.heap.IsListIter i1 l1 k1) (h2 : s.heap.IsListIter i2 l2 k2) (hl1 : s.heap.IsList l1 xs) (hl2 : s.heap.IsList l2 ys) (hx : xs[k1]? = some x) (hy : ys[k2]? = some y)
    (hQ : ∀ h', IsZipS h' z TI TO (rawInt s.heap.objs.size) → IsPair h' TO x y → h'.IsListIter i1 l1 (k1 + 1) → h'.IsListIter i2 l2 (k2 + 1) → IsPair h' s.heap.objs.size x y → h'.objs.size = s.heap.objs.size + 1 →
      (∀ c o, c ≠ z → c ≠ TO → c ≠ i1 → c ≠ i2 → s.heap.get? c = some o → h'.get? c = some o) → Q (some (.ref s.heap.objs.size)) { s with heap := h' }) :
    wpAny (model prog w) A (pyNext (.ref z)) Q E s := by
  have hT : s.TypeIs (.ref z) "zip" := ⟨_, hz, rfl⟩
  unfold pyNext
  exact wpAny_bind (wpAny_attempt (wpAny_callSpecial?_slot (name := Str.ofString "__next__") hT F.slot_zip_next
    (wpAny_call_entry F.slot_zip_next hT F.entry_zip_next
      (zipS_next_item D hz hTI hTO h1 h2 hl1 hl2 hx hy fun h' a1 a2 a3 a4 a5 a6 a7 => wpAny_pure (hQ h' a1 a2 a3 a4 a5 a6 a7)) (F.args_zip_next_1 _))))
theorem wpAny_pyNext_zipS_end {z TI TO i1 i2 l1 l2 : Addr} {k1 k2 : Nat} {xs ys : Array Value} {a b : Value} {Q : Option Value → Shared → Prop} (hh : A.handled = none) (D : ZipApart z TI TO i1 i2 l1 l2)
    (hz : IsZipS s.heap z TI TO .none) (hTI : IsPair s.heap TI (.ref i1) (.ref i2)) (hTO : IsPair s.heap TO a b)
    (h1 : s.heap.IsListIter i1 l1 k1) (h2 : s.heap.IsListIter i2 l2 k2) (hl1 : s.heap.IsList l1 xs) (hl2 : s.heap.IsList l2 ys) (hx : xs[k1]? = none) (hy : ys[k2]? = none)
    (hQ : ∀ h', (∀ c o, c ≠ z → c ≠ TO → c ≠ i1 → c ≠ i2 → s.heap.get? c = some o → h'.get? c = some o) → Q none { s with heap := h' }) : wpAny (model prog w) A (pyNext (.ref z)) Q E s := by
  have hT : s.TypeIs (.ref z) "zip" := ⟨_, hz, rfl⟩
  unfold pyNext
  refine wpAny_bind (wpAny_attempt (wpAny_callSpecial?_slot (name := Str.ofString "__next__") hT F.slot_zip_next
    (wpAny_call_entry F.slot_zip_next hT F.entry_zip_next (zipS_next_end hh D hz hTI hTO h1 h2 hl1 hl2 hx hy fun h' e hk he => ?_) (F.args_zip_next_1 _))))
  obtain ⟨o, ho, hc⟩ := he
  refine wpAny_bind (wpAny_isInstance (T := "StopIteration") (b := true) ⟨o, ho, hc⟩ isSubtype_stop ?_)
  exact wpAny_pure (hQ _ hk)
theorem wpAny_letOwnedTupleGo_zipS {elts : List Expr} {x1} {pos : Pos} {z TI TO T : Addr} {Q : Unit → Shared → Prop} (hz : IsZipS s.heap z TI TO (rawInt T))
    (hQ : ∀ h', IsZipS h' z TI TO .none → Heap.SameBut z s.heap h' → Q () { s with heap := h' }) :
    wpAny (model prog w) A (letOwnedTupleGo (.Tuple elts x1 pos) (.ref z) (.ref T)) Q E s := by
  unfold letOwnedTupleGo
  refine wpAny_bind (wpAny_load hz ?_)
  show wpAny _ _ (if (["enumerate", "zip", "dict_itemiterator", "dict_reverseitemiterator", "odict_iterator", "itertools.zip_longest", "itertools.pairwise"].contains "zip" &&
      (#[rawInt T, .bool false, .bool true, .ref TI, .ref TO] : Array Value)[0]? == some (rawInt T)) = true then _ else _) Q E s
  rw [if_pos (by simp)]
  refine wpAny_bind (wpAny_rule ?_)
  show wpAny _ _ (setField (.ref z) 0 .none) Q E s
  exact wpAny_setField_rec hz (by simp) fun h' hz' hs' => hQ h' hz' hs'
theorem wpAny_pyIter_zipS {z TI TO : Addr} {f0 : Value} {Q : Value → Shared → Prop} (hz : IsZipS s.heap z TI TO f0) (h : Q (.ref z) s) : wpAny (model prog w) A (pyIter (.ref z)) Q E s := by
  have hT : s.TypeIs (.ref z) "zip" := ⟨_, hz, rfl⟩
  refine wpAny_pyIter_slot hT F.slot_zip_iter (wpAny_call_entry F.slot_zip_iter hT F.entry_zip_iter ?_ (F.args_zip_iter_1 _))
  show wpAny _ _ (ret (.ref z)) _ _ s
  exact wpAny_pure ⟨_, rfl, "zip", _, hT, F.slot_zip_next.lookup, h⟩
end
/-! ### the call -/
abbrev kwStrict : List (Str × Value) := [(Str.ofString "strict", .bool true)]
theorem typeCall_zipS (a b : Value) : checkTypeCall "zip" ⟨[a, b], kwStrict⟩ = pure () := by kernel_rfl
theorem newCall_zipS (a b : Value) : checkBuiltinCall "zip.__new__" ⟨[.type "zip", a, b], kwStrict⟩ = pure () := by kernel_rfl
theorem args_object_initS (a b c : Value) : argsOk "object.__init__" ⟨[a, b, c], kwStrict⟩ := by
  unfold argsOk; rw [signature?_of (id := "object.__init__") (n := ['_', '_', 't', 'i', 'n', 'i', '_', '_']) (o := ['t', 'c', 'e', 'j', 'b', 'o']) (by kernel_rfl) F.owner_object]; kernel_rfl
section
variable {prog : Program} {w : World} {A : Around} {E : Value → Shared → Prop} {s : Shared}
theorem callType_meetsK {T newId initId : String} {Bn Bi : Builtin} {args : List Value} {kw : List (Str × Value)} {S : Spec} {Q Q₁ : Value → Shared → Prop} (ft : TypeCalled T newId initId)
    (hct : checkTypeCall T ⟨args, kw⟩ = pure ()) (hcn : checkBuiltinCall newId ⟨.type T :: args, kw⟩ = pure ())
    (entryN : entryFor table newId = some Bn) (entryI : entryFor table initId = some Bi) (g : Meets (Bn ⟨.type T :: args, kw⟩) S)
    (h : S A.in1 (wants Q₁ E) s)
    (hnext : ∀ obj s₁, Q₁ obj s₁ → s₁.TypeIs obj T ∧ argsOk initId ⟨obj :: args, kw⟩ ∧ ∃ Si, Meets (Bi ⟨obj :: args, kw⟩) Si ∧ Si A.in1 (wants (fun r s₂ => r = .none ∧ Q obj s₂) E) s₁) :
    wpAny (model prog w) A (call (.type T) args kw) Q E s := by
  obtain ⟨c, tl, hmro⟩ := ft.mro
  have hmade := ft.made
  have hsub := ft.sub
  refine wpAny_call (codeAny_of_tree ?_)
  show wpAny _ _ (callAny (.type T) _) _ _ _
  refine wpAny_pure ⟨Code.quiet_builtin _ (by decide +kernel), codeAny_builtin F.entry_type_call ?_⟩
  rw [Around.under_plain (weight_type_call_type T args kw) (units_type_call_type T args kw)]
  have h1 := ft.notType
  have h2 := ft.canCreate
  repeat (any_goals (first | assumption | wp_step))

  refine codeAny_mono (codeAny_call_builtin ft.plain entryN (wpAny_of_eq hcn (g prog w A.in1 _ s h))) fun r s₁ hr => ?_
  cases r with
  | error e => exact hr
  | ok fl =>
    cases fl with
    | ret obj =>
      obtain ⟨hT, hok, Si, gi, hsi⟩ := hnext _ _ hr
      have hli := ft.init.lookup
      have hbi := ft.init.bind obj
      repeat (any_goals (first | assumption | wp_step))

      refine codeAny_mono (codeAny_call_builtin ft.init.plain entryI (ft.init.check _ _ _ _ _ _ _ _ hT hok (gi prog w A.in1 _ s₁ hsi))) fun r₂ s₂ hr₂ => ?_
      cases r₂ with
      | error e => exact hr₂
      | ok fl₂ =>
        cases fl₂ with
        | ret r =>
          obtain ⟨rfl, hq⟩ := hr₂
          repeat (any_goals (first | assumption | wp_step))
        | _ => exact hr₂.elim
    | _ => exact hr.elim
theorem object_init_meetsK {T newId : String} {self a : Value} {rest : List Value} {kw : List (Str × Value)} (hl : typeLookup (.type T) "__init__" = pure (some (.builtin "object.__init__")))
    (hm : Bind.madeBy (.type T) = pure (some newId)) (hne : (some newId != some "object.__new__") = true) :
    Meets (Builtin.«object.__init__» ⟨self :: a :: rest, kw⟩) (fun _ R s => s.TypeIs self T ∧ R (.ok (.ret .none)) s) := by
  refine Meets.of_wp fun prog w A R s hs => ?_
  obtain ⟨hT, hq⟩ := hs
  repeat (any_goals (first | assumption | wp_step))
  exact ⟨_, rfl, hq⟩
end
abbrev zipS5 (h : Heap) (l1 l2 : Addr) : Heap := (zipH4 h l1 l2).push { cls := .type "zip", data := .fields #[.none, .bool false, .bool true, .ref (zipH2 h l1 l2).objs.size, .ref (zipH3 h l1 l2).objs.size] }
theorem meets_zipS_new (l1 l2 : Addr) (xs ys : Array Value) :
    Meets (Builtin.«zip.__new__» ⟨[.type "zip", .ref l1, .ref l2], kwStrict⟩) (fun _ R s => s.heap.IsList l1 xs ∧ s.heap.IsList l2 ys ∧
      R (.ok (.ret (.ref (zipH4 s.heap l1 l2).objs.size))) { s with heap := zipS5 s.heap l1 l2 }) :=
  .of_wp fun prog w A R s h => by
    obtain ⟨hp, g, d, tk, os⟩ := s; obtain ⟨hl1, hl2, h⟩ := h
    have hsub := sub_zip
    have hL1 : Heap.IsList (Shared.heap ⟨hp, g, d, tk, os⟩) l1 xs := hl1
    have hL2 : Heap.IsList (Shared.heap ⟨hp.push { cls := .type "list_iterator", data := .fields #[.ref l1, .int 0 0] }, g, d, tk, os⟩) l2 ys := Heap.IsList.push hl2 _
    wp_walk using wpAny_pyIter_list hL1, wpAny_pyIter_list hL2
    exact ⟨_, rfl, h⟩
section
variable {prog : Program} {w : World} {A : Around} {E : Value → Shared → Prop} {s : Shared}
theorem call_zipS_2 {l1 l2 : Addr} {xs ys : Array Value} {Q : Value → Shared → Prop} (hl1 : s.heap.IsList l1 xs) (hl2 : s.heap.IsList l2 ys)
    (h : ∀ h', IsZipS h' (s.heap.objs.size + 4) (s.heap.objs.size + 2) (s.heap.objs.size + 3) .none → IsPair h' (s.heap.objs.size + 2) (.ref s.heap.objs.size) (.ref (s.heap.objs.size + 1)) →
      IsPair h' (s.heap.objs.size + 3) .none .none → h'.IsListIter s.heap.objs.size l1 0 → h'.IsListIter (s.heap.objs.size + 1) l2 0 → h'.objs.size = s.heap.objs.size + 5 →
      (∀ c o, s.heap.get? c = some o → h'.get? c = some o) → Q (.ref (s.heap.objs.size + 4)) { s with heap := h' }) :
    wpAny (model prog w) A (call (.type "zip") [.ref l1, .ref l2] kwStrict) Q E s := by
  refine callType_meetsK (Q₁ := fun obj s₁ => s₁.TypeIs obj "zip" ∧ Q obj s₁) F.called_zip (typeCall_zipS _ _) (newCall_zipS _ _) F.entry_zip_new F.entry_object_init
    (meets_zipS_new l1 l2 xs ys) ⟨hl1, hl2, ?_⟩ fun obj _ hq => ⟨hq.1, args_object_initS obj _ _, _, object_init_meetsK F.called_zip.init.lookup F.called_zip.made (by decide), hq.1, rfl, hq.2⟩
  have z1 : (zipH1 s.heap l1).objs.size = s.heap.objs.size + 1 := Heap.size_push ..
  have z2 : (zipH2 s.heap l1 l2).objs.size = s.heap.objs.size + 2 := by rw [Heap.size_push, z1]
  have z3 : (zipH3 s.heap l1 l2).objs.size = s.heap.objs.size + 3 := by rw [Heap.size_push, z2]
  have z4 : (zipH4 s.heap l1 l2).objs.size = s.heap.objs.size + 4 := by rw [Heap.size_push, z3]
  have z5 : (zipS5 s.heap l1 l2).objs.size = s.heap.objs.size + 5 := by rw [Heap.size_push, z4]
  have g5 : (zipS5 s.heap l1 l2).get? (zipH4 s.heap l1 l2).objs.size = some _ := Heap.get?_push_size _ rfl
  have g4 : (zipS5 s.heap l1 l2).get? (zipH3 s.heap l1 l2).objs.size = some _ := Heap.get?_push_of_some _ (Heap.get?_push_size _ rfl)
  have g3 : (zipS5 s.heap l1 l2).get? (zipH2 s.heap l1 l2).objs.size = some _ := Heap.get?_push_of_some _ (Heap.get?_push_of_some _ (Heap.get?_push_size _ rfl))
  have g2 : (zipS5 s.heap l1 l2).get? (zipH1 s.heap l1).objs.size = some _ := Heap.get?_push_of_some _ (Heap.get?_push_of_some _ (Heap.get?_push_of_some _ (Heap.get?_push_size _ rfl)))
  have g1 : (zipS5 s.heap l1 l2).get? s.heap.objs.size = some _ := Heap.get?_push_of_some _ (Heap.get?_push_of_some _ (Heap.get?_push_of_some _ (Heap.get?_push_of_some _ (Heap.get?_push_size _ rfl))))
  show _ ∧ _
  rw [z2, z3, z4] at g5
  rw [z1, z2] at g3
  rw [z3] at g4
  rw [z1] at g2
  rw [z4]
  exact ⟨⟨_, g5, rfl⟩, h _ g5 g3 g4 ⟨_, g1, rfl, rfl⟩ ⟨_, g2, rfl, rfl⟩ z5 fun c o x =>
    Heap.get?_push_of_some _ (Heap.get?_push_of_some _ (Heap.get?_push_of_some _ (Heap.get?_push_of_some _ (Heap.get?_push_of_some _ x))))⟩
end
end PySem
namespace PyProof.Rows
open PySem
section
variable {M : Model} {A : Around} {E : Value → Shared → Prop} {s : Shared} {env : Env}
theorem callWith_typeKwB {pos : Pos} {T : String} {first : List Value} {args : List (Bool × Sem Value)} {keywords : List (Option Str × Sem Value)} {Q : Value → Shared → Prop}
    (hplain : args.any (·.1) = false) (hkw : keywords.any (·.1.isNone) = false)
    (h : wpAny M A (evalArgs (.type T) true args keywords) (fun a s₁ => wpAny M A (call (.type T) (first ++ a.pos) a.kw) Q E s₁) E s) :
    wpAny M A (callWith pos (.type T) first args keywords) Q E s := by
  unfold callWith
  refine wpAny_bind (wpAny_holding (wpAny_mono h (fun a s₁ h₁ => wpAny_bind (wpAny_standAt ?_)) fun _ _ x => x))
  simp only [hplain, hkw, Bool.or_false]
  refine wpAny_bind (wpAny_pure ?_)
  exact wpAny_bind (wpAny_mono h₁ (fun r s₂ hr => wpAny_bind (wpAny_holding (wpAny_point (wpAny_pure hr)))) fun _ _ x => x)
theorem callWith_typeKw {pos : Pos} {T : String} {e : Expr} {rest : List Expr} {kws : List Keyword} {Q : Value → Shared → Prop}
    (h : wpAny M A (spliced (backTo pos (starEach (e :: rest) env))) (fun vs s₁ => wpAny M A (evalAll ((backToKw pos (keywordEach kws env)).map (·.2)))
      (fun kvs s₂ => wpAny M A (call (.type T) vs (((backToKw pos (keywordEach kws env)).filterMap (·.1)).zip kvs)) Q E s₂) E s₁) E s)
    (he : backTo pos (starEach (e :: rest) env) = (false, eval e env) :: backTo pos (starEach rest env) := by rfl)
    (hplain : (backTo pos (starEach (e :: rest) env)).any (·.1) = false := by rfl)
    (hall : (backToKw pos (keywordEach kws env)).all (·.1.isSome) = true := by rfl)
    (hkw : (backToKw pos (keywordEach kws env)).any (·.1.isNone) = false := by rfl) :
    wpAny M A (callWith pos (.type T) [] (backTo pos (starEach (e :: rest) env)) (backToKw pos (keywordEach kws env))) Q E s := by
  refine callWith_typeKwB hplain hkw ?_
  rw [he] at h ⊢
  exact evalArgs_kwB hall h
end
end PyProof.Rows
namespace L2
open PySem PySem.Spec PyProof.Rows
/-- both lists have one length -/
def ItzS (K : PySem.W.Frag) (a b : Addr) : It :=
  ⟨fun i H => ∃ (xs ys : List V) (x y : V), SqL K H a xs ∧ SqL K H b ys ∧ xs[i]? = some x ∧ ys[i]? = some y,
    fun i H v H' => ∃ T x y, v = .ref T ∧ H T = none ∧ H' = upd H T (.tup [x, y]) ∧ (∀ xs, SqL K H a xs → xs[i]? = some x) ∧ ∀ ys, SqL K H b ys → ys[i]? = some y,
    fun i H => ∃ xs ys : List V, SqL K H a xs ∧ SqL K H b ys ∧ xs.length ≤ i ∧ ys.length ≤ i⟩
theorem turn_zipS {P : Program} {w : World} {K : PySem.W.Frag} {elts : List Expr} {kk : Nat} {tpos : Pos} {a b z TI TO i1 i2 : Addr} (D : ZipApart z TI TO i1 i2 a b) :
    Turn P w K (.Tuple elts kk tpos) (ItzS K a b) [z, TI, TO, i1, i2] z (fun i h => IsZipS h z TI TO .none ∧ IsPair h TI (.ref i1) (.ref i2) ∧ (∃ x y, IsPair h TO x y) ∧ h.IsListIter i1 a i ∧ h.IsListIter i2 b i) where
  mem := by simp
  obj := fun i h st c hc => by
    obtain ⟨hz, hTI, ⟨x, y, hTO⟩, ⟨o1, e1, _, d1⟩, ⟨o2, e2, _, d2⟩⟩ := st
    have e' : c = z ∨ c = TI ∨ c = TO ∨ c = i1 ∨ c = i2 := by simpa using hc
    rcases e' with q | q | q | q | q
    · rw [q]; exact ⟨_, hz, fun v q => nomatch q⟩
    · rw [q]; exact ⟨_, hTI, fun v q => nomatch q⟩
    · rw [q]; exact ⟨_, hTO, fun v q => nomatch q⟩
    · rw [q]; exact ⟨o1, e1, fun v q => by rw [d1] at q; cases q⟩
    · rw [q]; exact ⟨o2, e2, fun v q => by rw [d2] at q; cases q⟩
  keep := fun i h h' st k => by
    obtain ⟨hz, hTI, ⟨x, y, hTO⟩, h1, h2⟩ := st
    exact ⟨k z (by simp) _ hz, k TI (by simp) _ hTI, ⟨x, y, k TO (by simp) _ hTO⟩, h1.at fun o q => k i1 (by simp) o q, h2.at fun o q => k i2 (by simp) o q⟩
  item := by
    intro X hP hw hK hc i pins s σ H E I hf st hg
    subst hP hw hK
    obtain ⟨hz, hTI, ⟨x0, y0, hTO⟩, h1, h2⟩ := st
    obtain ⟨xs, ys, x, y, hqx, hqy, hx, hy⟩ := hg
    obtain ⟨its, rv, p, _⟩ := I.list hqx
    obtain ⟨its2, rv2, p2, _⟩ := I.list hqy
    obtain ⟨u, hu, ru⟩ := rv.get hx
    obtain ⟨u2, hu2, ru2⟩ := rv2.get hy
    have hzl : z < s.heap.objs.size := Heap.lt_size hz
    refine wpAny_pyNext_zipS_item D hz hTI hTO h1 h2 p.isList p2.isList (x := u) (y := u2) (by simpa using hu) (by simpa using hu2) fun h' z' TO' h1' h2' hT hsz hk => ?_
    refine ⟨_, rfl, wpAny_letOwnedTupleGo_zipS (s := { s with heap := h' }) z' fun h'' z'' sb => ?_⟩
    have hT2 : h''.get? s.heap.objs.size = some { cls := .type "tuple", data := .seq #[u, u2] } := (sb.2 _ (Nat.ne_of_gt hzl)).trans hT
    have new : ObjOk X.prog X.w (upd H s.heap.objs.size (.tup [x, y])) h'' s.heap.objs.size (.tup [x, y]) :=
      ⟨by show 2 ≤ sizeLine; decide, [u, u2], .cons ru (.cons ru2 .nil), ⟨_, hT2, rfl, _, rfl⟩⟩
    have I1 : Inv X pins σ (upd H s.heap.objs.size (.tup [x, y])) { s with heap := h'' } :=
      I.turnedNew (t' := s.toks) (ch := [z, TI, TO, i1, i2]) (fun c o hb q => (sb.2 c (fun q' => hb (by simp [q']))).trans (hk c o (fun q' => hb (by simp [q'])) (fun q' => hb (by simp [q'])) (fun q' => hb (by simp [q'])) (fun q' => hb (by simp [q'])) q)) hf (Nat.le_refl _) new
    refine ⟨.ref s.heap.objs.size, _, I1, rfl, ⟨_, x, y, rfl, I.hok.fresh (Nat.le_refl _), rfl, fun l hl => by rw [I.list_inj hl hqx]; exact hx, fun l hl => by rw [I.list_inj hl hqy]; exact hy⟩, ⟨z'', ?_, ⟨u, u2, ?_⟩, ?_, ?_⟩, fun c hcm => ?_⟩
    · exact (sb.2 _ D.TIz).trans (hk _ _ D.TIz D.TITO D.TIi1 D.TIi2 hTI)
    · exact (sb.2 _ D.TOz).trans TO'
    · exact h1'.at fun o q => (sb.2 _ D.i1z).trans q
    · exact h2'.at fun o q => (sb.2 _ D.i2z).trans q
    · have hlt : c < s.heap.objs.size := by
        have e' : c = z ∨ c = TI ∨ c = TO ∨ c = i1 ∨ c = i2 := by simpa using hcm
        rcases e' with q | q | q | q | q
        · rw [q]; exact hzl
        · rw [q]; exact Heap.lt_size hTI
        · rw [q]; exact Heap.lt_size hTO
        · rw [q]; obtain ⟨_, e1, _⟩ := h1; exact Heap.lt_size e1
        · rw [q]; obtain ⟨_, e2, _⟩ := h2; exact Heap.lt_size e2
      rw [upd_ne (Nat.ne_of_lt hlt)]
      exact (hf c hcm).1
  done := by
    intro X hP hw hK hc i pins s σ H E I hf st hg
    subst hP hw hK
    obtain ⟨hz, hTI, ⟨x0, y0, hTO⟩, h1, h2⟩ := st
    obtain ⟨xs, ys, hqx, hqy, q1, q2⟩ := hg
    obtain ⟨its, rv, p, _⟩ := I.list hqx
    obtain ⟨its2, rv2, p2, _⟩ := I.list hqy
    have l1 := rv.length
    have l2 := rv2.length
    exact wpAny_pyNext_zipS_end (I.ok.hd hc) D hz hTI hTO h1 h2 p.isList p2.isList (by simp; omega) (by simp; omega) fun h' hk => ⟨rfl, I.turnedL (t' := s.toks) (ch := [z, TI, TO, i1, i2]) (fun c o hb q =>
      hk c o (fun q' => hb (by simp [q'])) (fun q' => hb (by simp [q'])) (fun q' => hb (by simp [q'])) (fun q' => hb (by simp [q'])) q) hf⟩
  self := fun A i s Q E st h => wpAny_pyIter_zipS st.1 h
def iZipS (K : PySem.W.Frag) (ta : TA) : TI := fun σ H R => ta σ H fun vs H1 => ∃ a b xs ys, vs = [.ref a, .ref b] ∧ SqL K H1 a xs ∧ SqL K H1 b ys ∧ R (ItzS K a b) H1
theorem pi_zipS {X : Cx} {e e2 : Expr} {ta : TA} {p pos tpos kp cp : Pos} {ci : Nat} {elts : List Expr} {kk : Nat} (hg : Gl X "zip") (hm : X.mg "zip" = none) (ha : PA X [e, e2] ta)
    (he : backTo pos (starEach [e, e2] X.env) = (false, eval e X.env) :: backTo pos (starEach [e2] X.env) := by rfl) (hpl : (backTo pos (starEach [e, e2] X.env)).any (·.1) = false := by rfl) :
    PI X (.Tuple elts kk tpos) (.Call (.Name "zip" p) [e, e2] [⟨some "strict", .Constant (.bool true) ci cp, kp⟩] pos) (iZipS X.K ta) := by
  refine ⟨fun pins s σ H R I h => ?_⟩
  refine wpAny_Call_Name_kw (ld_blt I hg hm PyProof.Rows.boot_zip (PyProof.Rows.callWith_typeKw (thn (ha.run pos pins s σ H _ I h) fun us s1 ⟨vs, H1, I1, r1, q1⟩ => ?_) he hpl))
  refine PyProof.Rows.kws_cons (wpAny_pure (PyProof.Rows.kws_nil ?_))
  show wpAny _ _ (call (.type "zip") us kwStrict) _ _ _
  obtain ⟨a, b, xs, ys, ex, hqx, hqy, q⟩ := q1
  subst ex
  cases r1 with
  | cons r rr =>
    cases rr with
    | cons r' rr =>
      cases rr
      cases r
      cases r'
      obtain ⟨its, rv, p1, _⟩ := I1.list hqx
      obtain ⟨its2, rv2, p2, _⟩ := I1.list hqy
      have la : a < s1.heap.objs.size := p1.lt
      have lb : b < s1.heap.objs.size := p2.lt
      refine call_zipS_2 p1.isList p2.isList fun h' hz hTI hTO h1 h2 hsz hk => wpAny_pyIter_zipS hz ?_
      have I2 : Inv X pins σ H1 { s1 with heap := h' } := I1.kept (t' := s1.toks) hk
      refine ⟨s1.heap.objs.size + 4, [s1.heap.objs.size + 4, s1.heap.objs.size + 2, s1.heap.objs.size + 3, s1.heap.objs.size, s1.heap.objs.size + 1], _, _, H1, rfl, I2, turn_zipS (PySem.W.ktu_apart s1.heap.objs.size a b la lb), ⟨hz, hTI, ⟨_, _, hTO⟩, h1, h2⟩, fun c hcm => ?_, q⟩
      have e' : c = s1.heap.objs.size + 4 ∨ c = s1.heap.objs.size + 2 ∨ c = s1.heap.objs.size + 3 ∨ c = s1.heap.objs.size ∨ c = s1.heap.objs.size + 1 := by simpa using hcm
      have hle : s1.heap.objs.size ≤ c := by
        rcases e' with z | z | z | z | z
        · rw [z]; exact Nat.le_add_right _ _
        · rw [z]; exact Nat.le_add_right _ _
        · rw [z]; exact Nat.le_add_right _ _
        · rw [z]; exact Nat.le_refl _
        · rw [z]; exact Nat.le_add_right _ _
      exact I1.fpOk hle (I1.hok.fresh hle)
end L2
namespace Z
open PySem PySem.Spec PyProof.Rows L2
def SrcZS (K : PySem.W.Frag) (R : It → Hp → Prop) : List V → Hp → Prop := fun vs H1 => ∃ a b xs ys, vs = [.ref a, .ref b] ∧ SqL K H1 a xs ∧ SqL K H1 b ys ∧ R (ItzS K a b) H1
section
variable {X : Cx} {K : PySem.W.Frag} {H Ho : Hp} {σ : L2.St} {R : It → Hp → Prop} {ts : TA} {r0 rs : List (Addr × HO)} {α β : Type} [Py α] [Py β] {v u : V}
theorem zpi_zipS {e e2 : Expr} {ta : TA} {p pos tpos kp cp : Pos} {ci : Nat} {elts : List Expr} {kk : Nat} (hK : X.K = K) (hg : Gl X "zip") (hm : X.mg "zip" = none) (ha : PA X [e, e2] ta)
    (he : backTo pos (starEach [e, e2] X.env) = (false, eval e X.env) :: backTo pos (starEach [e2] X.env) := by rfl) (hpl : (backTo pos (starEach [e, e2] X.env)).any (·.1) = false := by rfl) :
    PI X (.Tuple elts kk tpos) (.Call (.Name "zip" p) [e, e2] [⟨some "strict", .Constant (.bool true) ci cp, kp⟩] pos) (iZipS K ta) := hK ▸ pi_zipS hg hm ha he hpl
theorem k_iZipS (k : ts σ H (SrcZS K R)) : iZipS K ts σ H R := k
theorem trn_zipS {xs : List α} {ys : List β} {a b : Addr} (d : LV K r0 Ho v xs) (ev : v = .ref a) (d' : LV K r0 Ho u ys) (eu : u = .ref b) (hl : xs.length = ys.length) : Trn K r0 (ItzS K a b) (xs.zip ys) Ho := by
  intro i rs' H' Ho' e z sub
  obtain ⟨a', vs, rfl, d, s⟩ := d
  obtain ⟨b', us, rfl, d', s'⟩ := d'
  cases ev
  cases eu
  have sa : SqL K H' a vs := src_stay s e z sub
  have sb : SqL K H' b us := src_stay s' e z sub
  refine ⟨fun p hp => ?_, fun hl2 => ⟨vs, us, sa, sb, ?_⟩⟩
  · obtain ⟨hx, hy⟩ := List.getElem?_zip_eq_some.mp hp
    obtain ⟨x, ex, dx⟩ := d.get hx
    obtain ⟨y, ey, dy⟩ := d'.get hy
    refine ⟨⟨vs, us, x, y, sa, sb, ex, ey⟩, fun t H'' yy => ?_⟩
    obtain ⟨T, x', y', rfl, hT, rfl, qx, qy⟩ := yy
    have e1 : x' = x := Option.some.inj ((qx _ sa).symm.trans ex)
    have e2 : y' = y := Option.some.inj ((qy _ sb).symm.trans ey)
    subst e1 e2
    have e3 : Same Ho' (upd Ho' T (.tup [x', y'])) := Same.new (z.free hT)
    exact ⟨_, e3, fun _ z => z.alloc hT, .tup upd_same (.cons (D.mo (D.mo dx e) e3) (.cons (D.mo (D.mo dy e) e3) .nil))⟩
  · rw [List.length_zip] at hl2
    rw [d.len, d'.len]
    omega
theorem k_srcZS {xs : List α} {ys : List β} (d : LV K r0 Ho v xs) (d' : LV K r0 Ho u ys) (hs : ∀ r ∈ r0, r ∈ rs) (z : Zs rs H Ho) (hl : xs.length = ys.length) (k : ∀ J, Trn K r0 J (xs.zip ys) Ho → R J H) : SrcZS K R [v, u] H := by
  obtain ⟨a', vs, rfl, dd, s⟩ := id d
  obtain ⟨b', us, rfl, dd', s'⟩ := id d'
  exact ⟨a', b', vs, us, rfl, src_stay s (Same.refl _) z hs, src_stay s' (Same.refl _) z hs, k _ (trn_zipS d rfl d' rfl hl)⟩
end
end Z

/-! # sum(lists, start=[]): lists of ints, one behind the other -/
namespace PySem
open Sem (wp)
section
variable {prog : Program} {w : World} {A : Around} {E : Value → Shared → Prop} {s : Shared} {R : Result → Shared → Prop}
theorem add_isList {l b : Addr} {vs ws : Array Value} {Q : Value → Shared → Prop} (hl : s.heap.IsList l vs) (hb : s.heap.IsList b ws) (hsz : vs.size + ws.size ≤ sizeLine)
    (h : Q (.ref s.heap.objs.size) { s with heap := s.heap.push { cls := .type "list", data := .seq (vs ++ ws) } }) : wpAny (model prog w) A (binaryOp .Add (.ref l) (.ref b)) Q E s := by
  obtain ⟨⟨cls, dd, data, sl⟩, ho, hc, n, hd⟩ := id hl
  obtain ⟨⟨cls2, dd2, data2, sl2⟩, ho2, hc2, n2, hd2⟩ := id hb
  simp only at hc hd hc2 hd2
  subst hc hd hc2 hd2
  exact concat_meets ⟨_, ho, rfl⟩ ⟨_, ho2, rfl⟩ noFill_list_add seq_list_add PySem.F.slot_list_add PySem.F.entry_list_add (PySem.F.args_list_add_2 _ _) (PyProof.Rows.list_addW l b vs ws n n2 dd dd2 sl sl2 hsz) ⟨ho, ho2, h⟩
theorem codeAny_sum_lists (hh : A.in1.handled = none) {I S L n0 : Addr} {its : Array Value} {xss : List (List Value)} (hn : its.size = xss.length) (hLn : L < n0) (hIn : n0 ≤ I) (hSn : n0 ≤ S) (hIS : I ≠ S) :
    ∀ (k i : Nat) (s : Shared) (a : Addr) (acc : List Value) (c : Nat), xss.length - i = k → i ≤ xss.length →
      s.heap.IsListIter I L i → s.heap.IsList L its → (∀ (j : Nat) (xs : List Value), xss[j]? = some xs → ∃ b : Addr, its[j]? = some (Value.ref b) ∧ b < n0 ∧ s.heap.IsList b xs.toArray) →
      s.heap.get? S = some { cls := .type "list", dict := none, data := .seq #[.ref a] c, slots := #[] } → s.heap.IsList a acc.toArray → a ≠ S → a ≠ I → n0 ≤ s.heap.objs.size → acc.length + (xss.drop i).flatten.length ≤ 100000 →
      (0 < i → n0 ≤ a ∧ ∃ m, s.heap.get? a = some { cls := .type "list", data := .seq acc.toArray m }) →
      (∀ h' p m tk, (∀ b o, b < n0 → s.heap.get? b = some o → h'.get? b = some o) → n0 ≤ p → h'.get? p = some { cls := .type "list", data := .seq (acc ++ (xss.drop i).flatten).toArray m } → R (.ok (.ret (.ref p))) { s with heap := h', toks := tk }) →
      0 < xss.length → codeAny (model prog w) A (.builtin "sum.loop" ⟨[.ref I, .ref S, rawInt 2, rawInt 0], []⟩) R s := by
  intro k
  induction k with
  | zero =>
    intro i s a acc c hk hi hit hL hx hS ha haS haI hn0 hsz hnew hR hne
    have hin : i = xss.length := by omega
    subst hin
    refine codeAny_builtin F.entry_sum_loop ?_
    rw [Around.under_plainId F.plain_sum_loop _]
    show wpAny _ A.in1 (seqItems? (.ref S) >>= _) _ _ s
    refine wpAny_bind (wpAny_seqItems hS rfl ?_)
    show wpAny _ A.in1 (tryCatch (pyNext (.ref I)) _ >>= _) _ _ s
    refine wpAny_bind (wpAny_tryCatch (wpAny_pyNext_list_end hh hit hL (Array.getElem?_eq_none (Nat.le_of_eq hn)) fun h' hb => ?_))
    obtain ⟨an, m, ea⟩ := hnew hne
    rw [List.drop_length, List.flatten_nil, List.append_nil] at hR
    exact wpAny_pure (hR h' a m s.toks (fun b o hb2 e => hb b o (Nat.ne_of_lt (Nat.lt_of_lt_of_le hb2 hIn)) e) an (hb _ _ haI ea))
  | succ k ih =>
    intro i s a acc c hk hi hit hL hx hS ha haS haI hn0 hsz hnew hR hne
    have hlt : i < xss.length := by omega
    obtain ⟨xs, exs⟩ : ∃ xs, xss[i]? = some xs := ⟨_, List.getElem?_eq_getElem hlt⟩
    obtain ⟨b, eb, bn, hbl⟩ := hx i xs exs
    have ed : xss.drop i = xs :: xss.drop (i + 1) := by
      rw [List.drop_eq_getElem_cons hlt]
      congr 1
      rw [List.getElem?_eq_getElem hlt] at exs
      exact Option.some.inj exs
    rw [ed, List.flatten_cons, List.length_append] at hsz
    have hIlt : I < s.heap.objs.size := by obtain ⟨_, e, _⟩ := hit; exact Heap.lt_size e
    have hSlt : S < s.heap.objs.size := Heap.lt_size hS
    refine codeAny_builtin F.entry_sum_loop ?_
    rw [Around.under_plainId F.plain_sum_loop _]
    show wpAny _ A.in1 (seqItems? (.ref S) >>= _) _ _ s
    refine wpAny_bind (wpAny_seqItems hS rfl ?_)
    show wpAny _ A.in1 (tryCatch (pyNext (.ref I)) _ >>= _) _ _ s
    refine wpAny_bind (wpAny_tryCatch (wpAny_pyNext_list_item hit hL eb fun h1 hit1 sb => ?_))
    have k1 : ∀ {b' o}, b' ≠ I → s.heap.get? b' = some o → h1.get? b' = some o := fun {b' o} n e => sb.extBut _ _ n e
    have hS1 := k1 (Ne.symm hIS) hS
    have ha1 : h1.IsList a acc.toArray := ha.extBut sb.extBut haI
    have hb1 : h1.IsList b xs.toArray := hbl.extBut sb.extBut (Nat.ne_of_lt (Nat.lt_of_lt_of_le bn hIn))
    have sz1 : h1.objs.size = s.heap.objs.size := sb.1
    show wpAny _ A.in1 ((holding [Value.ref b] (binaryOp .Add (.ref a) (.ref b))).attempt >>= _) _ _ _
    refine wpAny_bind (wpAny_attempt (wpAny_holding (add_isList (s := { s with heap := h1 }) ha1 hb1 (by simp only [List.size_toArray]; exact Nat.le_trans (show acc.length + xs.length ≤ 100000 by omega) (by decide)) ?_)))
    have eapp : acc.toArray ++ xs.toArray = (acc ++ xs).toArray := by simp only [List.append_toArray]
    rw [eapp]
    have hS2 : (h1.push { cls := .type "list", data := .seq (acc ++ xs).toArray }).get? S = some _ := Heap.get?_push_of_some _ hS1
    have hnw : (h1.push { cls := .type "list", data := .seq (acc ++ xs).toArray }).get? h1.objs.size = some _ := Heap.get?_push_size _ rfl
    have nS : h1.objs.size ≠ S := by rw [sz1]; exact Nat.ne_of_gt hSlt
    have nI : h1.objs.size ≠ I := by rw [sz1]; exact Nat.ne_of_gt hIlt
    show wpAny _ A.in1 (updateSeq S (fun _ => #[.ref h1.objs.size]) >>= _) _ _ _
    refine wpAny_bind (wpAny_updateSeq hS2 rfl ?_)
    have hS3 := Heap.get?_update_self (Obj.mapSeq fun _ => #[Value.ref h1.objs.size]) hS2 rfl
    refine wpAny_bind (wpAny_letGo ?_)
    have ot : ∀ {b' o}, b' ≠ S → b' ≠ I → s.heap.get? b' = some o → (((h1.push { cls := .type "list", data := .seq (acc ++ xs).toArray }).update S (Obj.mapSeq fun _ => #[Value.ref h1.objs.size])).update S (Obj.mapSeq fun _ => #[Value.ref h1.objs.size])).get? b' = some o := fun {b' o} n1 n2 e =>
      (Heap.get?_update_other _ _ (Ne.symm n1)).trans ((Heap.get?_update_other _ _ (Ne.symm n1)).trans (Heap.get?_push_of_some _ (k1 n2 e)))
    have hnw3 : (((h1.push { cls := .type "list", data := .seq (acc ++ xs).toArray }).update S (Obj.mapSeq fun _ => #[Value.ref h1.objs.size])).update S (Obj.mapSeq fun _ => #[Value.ref h1.objs.size])).get? h1.objs.size = some { cls := .type "list", data := .seq (acc ++ xs).toArray } :=
      (Heap.get?_update_other _ _ (Ne.symm nS)).trans ((Heap.get?_update_other _ _ (Ne.symm nS)).trans hnw)
    refine wpAny_bind (wpAny_updateSeq hS3 rfl (wpAny_pure ⟨plainId_quiet F.plain_sum_loop _, ih (i + 1) _ h1.objs.size (acc ++ xs) _ (by omega) hlt ?_ ?_ ?_ (Heap.get?_update_self _ hS3 rfl) ⟨_, hnw3, rfl, _, rfl⟩ nS nI ?_ ?_ (fun _ => ⟨by rw [sz1]; exact hn0, _, hnw3⟩) ?_ hne⟩))
    · exact hit1.at fun o e => (Heap.get?_update_other _ _ (Ne.symm hIS)).trans ((Heap.get?_update_other _ _ (Ne.symm hIS)).trans (Heap.get?_push_of_some _ e))
    · exact hL.at fun o e => ot (Nat.ne_of_lt (Nat.lt_of_lt_of_le hLn hSn)) (Nat.ne_of_lt (Nat.lt_of_lt_of_le hLn hIn)) e
    · intro j ys ej
      obtain ⟨b', e1, e2, e3⟩ := hx j ys ej
      exact ⟨b', e1, e2, e3.at fun o e => ot (Nat.ne_of_lt (Nat.lt_of_lt_of_le e2 hSn)) (Nat.ne_of_lt (Nat.lt_of_lt_of_le e2 hIn)) e⟩
    · show n0 ≤ Array.size _
      have := Heap.lt_size hnw3
      have q : n0 ≤ h1.objs.size := by rw [sz1]; exact hn0
      exact Nat.le_of_lt (Nat.lt_of_le_of_lt q this)
    · rw [List.length_append]; omega
    · intro h' p m tk kk pn ep
      rw [List.append_assoc, ← List.flatten_cons, ← ed] at ep
      exact hR h' p m tk (fun b' o hb2 e => kk b' o hb2 (ot (Nat.ne_of_lt (Nat.lt_of_lt_of_le hb2 hSn)) (Nat.ne_of_lt (Nat.lt_of_lt_of_le hb2 hIn)) e)) pn ep
theorem args_sumK (a b : Value) : argsOk "sum" ⟨[a], [(Str.ofString "start", b)]⟩ := by unfold argsOk; kernel_rfl
theorem sub_list_strS : isSubtype (.type "list") (.type "str") = pure false := by rw [isSubtype_type]; kernel_rfl
theorem sub_list_bytesS : isSubtype (.type "list") (.type "bytes") = pure false := by rw [isSubtype_type]; kernel_rfl
theorem sub_list_bytearrayS : isSubtype (.type "list") (.type "bytearray") = pure false := by rw [isSubtype_type]; kernel_rfl
theorem call_sum_lists (hh : A.in1.handled = none) {L st : Addr} {its : Array Value} {xss : List (List Value)} {Q : Value → Shared → Prop} (hL : s.heap.IsList L its) (hst : s.heap.IsList st #[]) (hn : its.size = xss.length)
    (hx : ∀ (j : Nat) (xs : List Value), xss[j]? = some xs → ∃ b : Addr, its[j]? = some (Value.ref b) ∧ s.heap.IsList b xs.toArray) (hsz : xss.flatten.length ≤ 100000) (hne : 0 < xss.length)
    (h : ∀ h' p m tk, (∀ b o, s.heap.get? b = some o → h'.get? b = some o) → s.heap.objs.size ≤ p → h'.get? p = some { cls := .type "list", data := .seq xss.flatten.toArray m } → Q (.ref p) { s with heap := h', toks := tk }) :
    wpAny (model prog w) A (call (.builtin "sum") [.ref L] [(Str.ofString "start", .ref st)]) Q E s := by
  refine wpAny_call (codeAny_call_builtin F.plain_sum F.entry_sum ?_)
  simp only [checkBuiltinCall, F.kind_sum]
  suffices hc : wpAny (model prog w) A.in1 (Builtin.«sum» ⟨[.ref L], [(Str.ofString "start", .ref st)]⟩) (fun fin s' => match fin with
      | .done f => (match (Except.ok f : Result) with | .ok (.ret v) => Q v s' | .ok _ => False | .error e => E e s')
      | .again c' => c'.quiet = true ∧ codeAny (model prog w) A c' (fun r s' => match r with | .ok (.ret v) => Q v s' | .ok _ => False | .error e => E e s') s') E s by
    have ha := args_sumK (.ref L) (.ref st)
    cases hsig : Manifest.signature? "sum" with
    | none => exact wpAny_pure hc
    | some sig =>
      simp only [argsOk, hsig] at ha
      have h2 : Bind.checkArgs "sum" sig ⟨[.ref L], [(Str.ofString "start", .ref st)]⟩ = pure () := ha
      show wpAny _ A.in1 (Bind.checkArgs "sum" sig ⟨[.ref L], [(Str.ofString "start", .ref st)]⟩) _ _ s
      rw [h2]; exact wpAny_pure hc
  unfold Builtin.«sum»
  simp only [List.length_cons, List.length_nil]
  rw [if_neg (by decide)]
  refine wpAny_bind (wpAny_of_eq (show Builtin.Builtins.bindParams "sum" ["start"] 0 ⟨[], [(Str.ofString "start", .ref st)]⟩ = pure [some (.ref st)] from by kernel_rfl) ?_)
  refine wpAny_bind (wpAny_pyIter_list hL ?_)
  have hstl : st < s.heap.objs.size := by obtain ⟨_, e, _⟩ := hst; exact Heap.lt_size e
  have hLl : L < s.heap.objs.size := by obtain ⟨_, e, _⟩ := hL; exact Heap.lt_size e
  have tyS : Shared.TypeIs { s with heap := s.heap.push { cls := .type "list_iterator", data := .fields #[.ref L, .int 0 0] } } (.ref st) "list" := by
    obtain ⟨o, e, c, _⟩ := hst
    exact ⟨o, Heap.get?_push_of_some _ e, c⟩
  refine wpAny_bind (wpAny_pure ?_)
  simp only [List.forIn_cons, List.forIn_nil]
  refine wpAny_bind (wpAny_bind (wpAny_bind (wpAny_isInstance (T := "list") (b := false) tyS sub_list_strS ?_)))
  simp only [Bool.false_eq_true, if_false]
  refine wpAny_pure (wpAny_bind (wpAny_bind (wpAny_isInstance (T := "list") (b := false) tyS sub_list_bytesS ?_)))
  simp only [Bool.false_eq_true, if_false]
  refine wpAny_pure (wpAny_bind (wpAny_bind (wpAny_isInstance (T := "list") (b := false) tyS sub_list_bytearrayS ?_)))
  simp only [Bool.false_eq_true, if_false]
  refine wpAny_pure (wpAny_pure ?_)
  refine wpAny_bind (wpAny_newObj_type ?_)
  have z1 : (s.heap.push { cls := .type "list_iterator", data := .fields #[.ref L, .int 0 0] }).objs.size = s.heap.objs.size + 1 := Heap.size_push ..
  have up : ∀ {b o}, s.heap.get? b = some o → ((s.heap.push { cls := .type "list_iterator", data := .fields #[.ref L, .int 0 0] }).push { cls := .type "list", data := .seq #[.ref st] }).get? b = some o := fun {b o} e => Heap.get?_push_of_some _ (Heap.get?_push_of_some _ e)
  refine wpAny_pure ⟨plainId_quiet F.plain_sum_loop _, codeAny_sum_lists hh (I := s.heap.objs.size) (S := (s.heap.push { cls := .type "list_iterator", data := .fields #[.ref L, .int 0 0] }).objs.size) (n0 := s.heap.objs.size) hn hLl (Nat.le_refl _) (by rw [z1]; exact Nat.le_succ _) (by rw [z1]; exact Nat.ne_of_lt (Nat.lt_succ_self _))
    xss.length 0 _ st [] 0 (Nat.sub_zero _) (Nat.zero_le _) ⟨_, Heap.get?_push_of_some _ (Heap.get?_push_size _ rfl), rfl, rfl⟩ (hL.at fun o e => up e) (fun j xs e => ?_) (Heap.get?_push_size _ rfl) (hst.at fun o e => up e) (by rw [z1]; exact Nat.ne_of_lt (Nat.lt_succ_of_lt hstl)) (Nat.ne_of_lt hstl) ?_ (by rw [List.drop_zero]; show 0 + _ ≤ _; omega) (fun z => absurd z (Nat.lt_irrefl 0)) (fun h' p m tk kk pn ep => ?_) hne⟩
  · obtain ⟨b, e1, e2⟩ := hx j xs e
    have hb : b < s.heap.objs.size := by obtain ⟨_, e3, _⟩ := e2; exact Heap.lt_size e3
    exact ⟨b, e1, hb, e2.at fun o e => up e⟩
  · show s.heap.objs.size ≤ Array.size _
    have := Heap.lt_size (up (b := L) hL.choose_spec.1)
    have q : s.heap.objs.size ≤ (s.heap.push { cls := .type "list_iterator", data := .fields #[.ref L, .int 0 0] }).objs.size := by rw [z1]; exact Nat.le_succ _
    refine Nat.le_trans q ?_
    exact Nat.le_trans (Nat.le_succ _) (Nat.le_of_eq (Heap.size_push ..).symm)
  · rw [List.drop_zero, List.nil_append] at ep
    exact h h' p m tk (fun b o e => kk b o (Heap.lt_size e) (up e)) pn ep
end
end PySem
namespace Z
open PySem PySem.Spec PyProof.Rows L2
def rSumL (K : PySem.W.Frag) : List V → List V → Hp → VK → Prop := fun vs zs H Q => ∃ (a l : Addr) (ws : List V) (xss : List (List Int)), vs = [.ref a] ∧ zs = [.ref l] ∧ SqL K H a ws ∧ SqL K H l [] ∧ ws.length = xss.length ∧
  (∀ (j : Nat) (xs : List Int), xss[j]? = some xs → ∃ b, ws[j]? = some (.ref b) ∧ SqL K H b (xs.map V.int)) ∧ xss.flatten.length ≤ 100000 ∧ 0 < xss.length ∧ ∀ p, H p = none → Q (.ref p) (upd H p (.lst (xss.flatten.map V.int)))
/-- the values of the items -/
theorem vals_lists {X : Cx} {pins : List (Addr × Obj)} {σ : L2.St} {H : Hp} {s : Shared} (I : Inv X pins σ H s) : ∀ {ws : List V} {xss : List (List Int)} {its : List Value}, Vals ws its → ws.length = xss.length → (∀ (j : Nat) (xs : List Int), xss[j]? = some xs → ∃ b, ws[j]? = some (.ref b) ∧ SqL X.K H b (xs.map V.int)) →
    ∃ yss : List (List Value), yss.length = xss.length ∧ Vals (xss.flatten.map V.int) yss.flatten ∧ ∀ (j : Nat) (ys : List Value), yss[j]? = some ys → ∃ b : Addr, its[j]? = some (Value.ref b) ∧ s.heap.IsList b ys.toArray
  | [], [], its, r, _, _ => ⟨[], rfl, .nil, fun j ys e => by simp at e⟩
  | w :: ws, xs :: xss, its, r, hl, h => by
    cases r with
    | @cons _ u _ us r1 r2 =>
      obtain ⟨b, eb, hs⟩ := h 0 xs rfl
      cases Option.some.inj eb
      obtain rfl : u = Value.ref b := r1
      obtain ⟨ys, rv, hlist, hz⟩ := I.list hs
      obtain ⟨yss, l1, v1, h1⟩ := vals_lists I r2 (by simpa using hl) (fun j xs e => by
        have := h (j + 1) xs (by simpa using e)
        simpa using this)
      refine ⟨ys :: yss, by simp [l1], ?_, fun j zs e => ?_⟩
      · rw [List.flatten_cons, List.flatten_cons, List.map_append]
        exact rv.append v1
      · cases j with
        | zero => cases e; exact ⟨b, rfl, hlist.isList⟩
        | succ j =>
          obtain ⟨b', e1, e2⟩ := h1 j zs (by simpa using e)
          exact ⟨b', by simpa using e1, e2⟩
section
variable {X : Cx} {K : PySem.W.Frag} {H Ho : Hp} {R rs : Grp} {Q : VK} {v u : V}
theorem zsumL (hK : X.K = K) (hc : X.calm = true) : CallRK X (.builtin "sum") [Str.ofString "start"] (rSumL K) := by
  subst hK
  intro pins s σ H vs zs us ws Q I r rz h
  obtain ⟨a, l, vs', xss, rfl, rfl, hs, hst, hl, hx, hsz, hne, q⟩ := h
  obtain rfl := Vals.ref1 r
  obtain rfl := Vals.ref1 rz
  obtain ⟨its, rv, p1, _⟩ := I.list hs
  obtain ⟨its0, rv0, p0, _⟩ := I.list hst
  cases rv0
  obtain ⟨yss, l1, v1, h1⟩ := vals_lists I rv hl hx
  have el : yss.flatten.length = xss.flatten.length := by rw [← v1.length, List.length_map]
  refine call_sum_lists (its := its.toArray) (xss := yss) (I.ok.hd hc) p1.isList p0.isList (by rw [List.size_toArray, ← rv.length, hl, l1]) (fun j ys e => ?_) (by omega) (by omega) fun h' p m tk kk pn ep => ?_
  · obtain ⟨b, e1, e2⟩ := h1 j ys e
    exact ⟨b, by simpa using e1, e2⟩
  · refine ⟨.ref p, upd H p (.lst (xss.flatten.map V.int)), I.laid (t' := tk) kk pn ⟨?_, _, m, v1, ep⟩, rfl, q p (I.hok.fresh pn)⟩
    rw [List.length_map]
    exact Nat.le_trans hsz (by decide)
theorem y_sumL {xss : List (List Int)} (d : LV K rs Ho v xss) (du : LV K rs Ho u ([] : List Int)) (z : Zs rs H Ho) (hg : 0 < xss.length ∧ xss.flatten.length ≤ 100000) (k : ∀ H' p ws, Zs ((p, .lst ws) :: rs) H' Ho → DL K Ho ws xss.flatten → Q (.ref p) H') : rSumL K [v] [u] H Q := by
  obtain ⟨p, vs, rfl, d, s⟩ := LV.rd d z
  obtain ⟨p2, vs2, rfl, d2, s2⟩ := LV.rd du z
  cases d2
  refine ⟨p, p2, vs, xss, rfl, rfl, s, s2, d.len, fun j xs e => ?_, hg.2, hg.1, fun q hq => k _ q _ (z.root hq) ints_dl⟩
  obtain ⟨w, ew, dw⟩ := d.get e
  obtain ⟨b, ws, rfl, d3, s3⟩ := LV.rd (LV.of dw) z
  rw [dl_ints d3] at s3
  exact ⟨b, ew, s3⟩
end
end Z

/-! # Ym: what the computations promise, in plain Lean -/
namespace Z
open PySem L2
section
variable {α β γ S ρ : Type}
theorem run_bind {c : W α} {f : α → W β} {Φ : β → Prop} : (W.bind c f).run Φ = c.run fun a => (f a).run Φ := propext ⟨fun h => h, fun h => h⟩
theorem run_bind2 {c : W (α × β)} {f : α → β → W γ} {Φ : γ → Prop} : (W.bind2 c f).run Φ = c.run fun r => (f r.1 r.2).run Φ := propext ⟨fun h => h, fun h => h⟩
theorem run_rt {a : α} {Φ : α → Prop} : (W.ret a).run Φ = Φ a := propext ⟨fun h => h, fun h => h⟩
theorem run_guard {p : Prop} {c : W α} {Φ : α → Prop} : (W.guard p c).run Φ = (p ∧ c.run Φ) := propext ⟨fun h => h, fun h => h⟩
theorem run_opt {o : Option α} {Φ : α → Prop} : (W.opt o).run Φ = ∃ a, o = some a ∧ Φ a := propext ⟨fun h => h, fun h => h⟩
theorem run_ite {b : Bool} {x y : W α} {Φ : α → Prop} : (W.ite b x y).run Φ = ((b = true → x.run Φ) ∧ (b = false → y.run Φ)) := propext ⟨fun h => h, fun h => h⟩
theorem run_if {b : Bool} {x y : W α} {Φ : α → Prop} : (W.ite b x y).run Φ = (if b = true then x.run Φ else y.run Φ) := by
  rw [run_ite]; cases b <;> simp
theorem run_mono {c : W α} {Φ Φ' : α → Prop} (h : c.run Φ) (k : ∀ a, Φ a → Φ' a) : c.run Φ' := c.mono _ _ k h
theorem atI_some {xs : List α} {i : Int} (h0 : 0 ≤ i) (h : i < xs.length) : ∃ a, a ∈ xs ∧ atI xs i = some a := by
  obtain ⟨j, rfl⟩ : ∃ j : Nat, i = j := ⟨i.toNat, by omega⟩
  have hj : j < xs.length := by omega
  exact ⟨xs[j], List.getElem_mem hj, atI_nat (List.getElem?_eq_getElem hj)⟩
theorem atI_get' {xs : List α} {i : Int} {a : α} (h0 : 0 ≤ i) (h : xs[i.toNat]? = some a) : atI xs i = some a := by
  obtain ⟨j, rfl⟩ : ∃ j : Nat, i = j := ⟨i.toNat, by omega⟩
  exact atI_nat (by simpa using h)
theorem ixN_nat' {n : Nat} {i : Int} (h0 : 0 ≤ i) (h : i < n) : ixN n i = some i.toNat := by
  unfold ixN
  rw [if_pos h0, if_pos h]
theorem forL_wp (Inv : Nat → S → Prop) {xs : List α} {s : S} {f : α → S → W S} {Φ : S → Prop} (h0 : Inv 0 s) (step : ∀ i x s, xs[i]? = some x → Inv i s → (f x s).run (Inv (i + 1))) (k : ∀ s, Inv xs.length s → Φ s) : (W.forL xs s f).run Φ := by
  induction xs generalizing s Inv with
  | nil => exact k s h0
  | cons x xs ih =>
    show (f x s).run (fun s' => (W.forL xs s' f).run Φ)
    refine run_mono (step 0 x s rfl h0) fun s' h' => ?_
    exact ih (fun i => Inv (i + 1)) h' (fun i y s hy hi => step (i + 1) y s (by simpa using hy) hi) fun s hs => k s hs
theorem forC_wp (Inv : Nat → S → Prop) {xs : List α} {s : S} {f : α → S → W (Ctl ρ S)} {Φ : Ctl ρ S → Prop} (h0 : Inv 0 s)
    (step : ∀ i x s, xs[i]? = some x → Inv i s → (f x s).run (CtlP (Inv (i + 1)) (fun s => Φ (.nx s)) (fun r => Φ (.rt r)))) (k : ∀ s, Inv xs.length s → Φ (.nx s)) : (W.forC xs s f).run Φ := by
  induction xs generalizing s Inv with
  | nil => exact k s h0
  | cons x xs ih =>
    show (W.bind (f x s) _).run Φ
    rw [run_bind]
    refine run_mono (step 0 x s rfl h0) fun c hc => ?_
    cases c with
    | nx s' => exact ih (fun i => Inv (i + 1)) hc (fun i y s hy hi => step (i + 1) y s (by simpa using hy) hi) fun s hs => k s hs
    | bk s' => exact hc
    | rt r => exact hc
theorem comp_wp {xs : List α} {acc : List β} {ct : α → W Bool} {cf : α → W β} (t : α → Bool) (f : α → β) {Φ : List β → Prop} (ht : ∀ x ∈ xs, ∀ Ψ : Bool → Prop, Ψ (t x) → (ct x).run Ψ) (hf : ∀ x ∈ xs, t x = true → ∀ Ψ : β → Prop, Ψ (f x) → (cf x).run Ψ)
    (k : Φ (acc ++ (xs.filter t).map f)) : (comp xs acc ct cf).run Φ := by
  induction xs generalizing acc with
  | nil =>
    simp at k
    exact k
  | cons x xs ih =>
    refine ht x List.mem_cons_self _ ⟨fun e => ?_, fun e => ?_⟩
    · refine hf x List.mem_cons_self e _ (ih (fun y hy => ht y (List.mem_cons_of_mem _ hy)) (fun y hy => hf y (List.mem_cons_of_mem _ hy)) ?_)
      simpa [List.filter_cons, e] using k
    · refine ih (fun y hy => ht y (List.mem_cons_of_mem _ hy)) (fun y hy => hf y (List.mem_cons_of_mem _ hy)) ?_
      simpa [List.filter_cons, e] using k
theorem compG_wp {xs : List α} {ct : α → W Bool} {cf : α → W β} (t : α → Bool) (f : α → β) {Φ : List β → Prop} (hl : xs.length ≤ sizeLine) (ht : ∀ x ∈ xs, ∀ Ψ : Bool → Prop, Ψ (t x) → (ct x).run Ψ) (hf : ∀ x ∈ xs, t x = true → ∀ Ψ : β → Prop, Ψ (f x) → (cf x).run Ψ)
    (k : Φ ((xs.filter t).map f)) : (compG xs ct cf).run Φ := ⟨hl, comp_wp t f ht hf (by simpa using k)⟩
theorem small {n : Nat} (h : n ≤ 100000) : n ≤ sizeLine := Nat.le_trans h (by decide)
theorem small' {n : Nat} (h : n ≤ 100000) : n < sizeLine := Nat.lt_of_le_of_lt h (by decide)
theorem apd_wp {xs : List α} {x : α} {Φ : List α → Prop} (h : xs.length ≤ 100000) (k : Φ (xs ++ [x])) : (apd xs x).run Φ := ⟨small' h, k⟩
theorem sti_wp {xs : List α} {i : Int} {y : α} {Φ : List α → Prop} (h0 : 0 ≤ i) (h : i < xs.length) (k : Φ (xs.set i.toNat y)) : (sti xs i y).run Φ := ⟨i.toNat, ixN_nat' h0 h, k⟩
/-! slices -/
theorem sIx_none (n d : Nat) : HT.sIx n d none = d := HT.sIx_none n d
theorem cut_to {xs : List α} {k : Int} (h0 : 0 ≤ k) : cut xs none (some k) = xs.take k.toNat := by
  obtain ⟨j, rfl⟩ : ∃ j : Nat, k = j := ⟨k.toNat, by omega⟩
  unfold cut
  rw [HT.sIx_none, HT.sIx_nat]
  simp only [List.drop_zero, Nat.sub_zero, Int.toNat_natCast]
  by_cases h : j ≤ xs.length
  · rw [Nat.min_eq_left h]
  · rw [Nat.min_eq_right (by omega), List.take_of_length_le (Nat.le_refl _), List.take_of_length_le (by omega)]
theorem cut_init {xs : List α} : cut xs none (some (-1)) = xs.dropLast := by
  unfold cut
  rw [HT.sIx_none]
  have e : HT.sIx xs.length xs.length (some (-1)) = xs.length - 1 := by
    simp only [HT.sIx]
    rw [if_pos (by decide)]
    omega
  rw [e]
  simp [List.dropLast_eq_take]
theorem cut_from {xs : List α} {k : Int} (h0 : 0 ≤ k) : cut xs (some k) none = xs.drop k.toNat := by
  obtain ⟨j, rfl⟩ : ∃ j : Nat, k = j := ⟨k.toNat, by omega⟩
  unfold cut
  rw [HT.sIx_none, HT.sIx_nat]
  simp only [Int.toNat_natCast]
  by_cases h : j ≤ xs.length
  · rw [Nat.min_eq_left h, List.take_of_length_le (by simp)]
  · rw [Nat.min_eq_right (by omega)]
    simp
    omega
end
/-! ### equal data -/
/-- data that == tells apart as Lean does, and that may be compared -/
class Eqv (α : Type) [Py α] where
  eqv : ∀ x y : α, PyData.eqv (toPy x) (toPy y) = true ↔ x = y
  d : Nat
  shape : ∀ x : α, (toPy x).depth ≤ d
theorem eqvAll_map {α : Type} [Py α] [Eqv α] : ∀ xs ys : List α, PyData.eqvAll (xs.map Py.toPy) (ys.map Py.toPy) = true ↔ xs = ys
  | [], [] => by simp [PyData.eqvAll]
  | [], y :: ys => by simp [PyData.eqvAll]
  | x :: xs, [] => by simp [PyData.eqvAll]
  | x :: xs, y :: ys => by
    have h1 := Eqv.eqv x y
    have h2 := eqvAll_map xs ys
    simp only [List.map_cons, PyData.eqvAll, Bool.and_eq_true, List.cons.injEq]
    rw [← h1, ← h2]
theorem depthAll_map {α : Type} [Py α] [Eqv α] : ∀ xs : List α, PyData.depthAll (xs.map Py.toPy) ≤ Eqv.d α
  | [] => by simp [PyData.depthAll]
  | x :: xs => by
    have h1 := Eqv.shape x
    have h2 := depthAll_map xs
    simp only [List.map_cons, PyData.depthAll]
    exact Nat.max_le.mpr ⟨h1, h2⟩
instance : Eqv Int := ⟨fun x y => by simp [toPy, Py.toPy, PyData.eqv], 0, fun x => by simp [toPy, Py.toPy, PyData.depth]⟩
instance : Eqv Bool := ⟨fun x y => by simp [toPy, Py.toPy, PyData.eqv], 0, fun x => by simp [toPy, Py.toPy, PyData.depth]⟩
instance : Eqv Str := ⟨fun x y => by simp [toPy, Py.toPy, PyData.eqv], 0, fun x => by simp [toPy, Py.toPy, PyData.depth]⟩
instance {α : Type} [Py α] [Eqv α] : Eqv (List α) := ⟨fun x y => by
  show PyData.eqv (.list (x.map Py.toPy)) (.list (y.map Py.toPy)) = true ↔ x = y
  simp only [PyData.eqv]
  exact eqvAll_map x y, Eqv.d α + 1, fun x => by
  show PyData.depth (.list (x.map Py.toPy)) ≤ _
  simp only [PyData.depth]
  exact Nat.succ_le_succ (depthAll_map x)⟩
instance {α β : Type} [Py α] [Py β] [Eqv α] [Eqv β] : Eqv (α × β) := ⟨fun x y => by
  obtain ⟨x1, x2⟩ := x
  obtain ⟨y1, y2⟩ := y
  show PyData.eqv (.tuple [toPy x1, toPy x2]) (.tuple [toPy y1, toPy y2]) = true ↔ _
  simp only [PyData.eqv, PyData.eqvAll, Bool.and_eq_true, Bool.and_true, Prod.mk.injEq]
  rw [Eqv.eqv x1 y1, Eqv.eqv x2 y2], Eqv.d α + Eqv.d β + 1, fun x => by
  obtain ⟨x1, x2⟩ := x
  show PyData.depth (.tuple [toPy x1, toPy x2]) ≤ _
  have h1 := Eqv.shape x1
  have h2 := Eqv.shape x2
  simp only [PyData.depth, PyData.depthAll]
  omega⟩
instance {α β γ : Type} [Py α] [Py β] [Py γ] [Eqv α] [Eqv β] [Eqv γ] : Eqv (P3 α β γ) := ⟨fun x y => by
  obtain ⟨x1, x2, x3⟩ := x
  obtain ⟨y1, y2, y3⟩ := y
  show PyData.eqv (.tuple [toPy x1, toPy x2, toPy x3]) (.tuple [toPy y1, toPy y2, toPy y3]) = true ↔ _
  simp only [PyData.eqv, PyData.eqvAll, Bool.and_eq_true, Bool.and_true, P3.mk.injEq]
  rw [Eqv.eqv x1 y1, Eqv.eqv x2 y2, Eqv.eqv x3 y3], Eqv.d α + Eqv.d β + Eqv.d γ + 1, fun x => by
  obtain ⟨x1, x2, x3⟩ := x
  show PyData.depth (.tuple [toPy x1, toPy x2, toPy x3]) ≤ _
  have h1 := Eqv.shape x1
  have h2 := Eqv.shape x2
  have h3 := Eqv.shape x3
  simp only [PyData.depth, PyData.depthAll]
  omega⟩
instance {α β γ δ : Type} [Py α] [Py β] [Py γ] [Py δ] [Eqv α] [Eqv β] [Eqv γ] [Eqv δ] : Eqv (P4 α β γ δ) := ⟨fun x y => by
  obtain ⟨x1, x2, x3, x4⟩ := x
  obtain ⟨y1, y2, y3, y4⟩ := y
  show PyData.eqv (.tuple [toPy x1, toPy x2, toPy x3, toPy x4]) (.tuple [toPy y1, toPy y2, toPy y3, toPy y4]) = true ↔ _
  simp only [PyData.eqv, PyData.eqvAll, Bool.and_eq_true, Bool.and_true, P4.mk.injEq]
  rw [Eqv.eqv x1 y1, Eqv.eqv x2 y2, Eqv.eqv x3 y3, Eqv.eqv x4 y4], Eqv.d α + Eqv.d β + Eqv.d γ + Eqv.d δ + 1, fun x => by
  obtain ⟨x1, x2, x3, x4⟩ := x
  show PyData.depth (.tuple [toPy x1, toPy x2, toPy x3, toPy x4]) ≤ _
  have h1 := Eqv.shape x1
  have h2 := Eqv.shape x2
  have h3 := Eqv.shape x3
  have h4 := Eqv.shape x4
  simp only [PyData.depth, PyData.depthAll]
  omega⟩
theorem eqD_iff {α : Type} [Py α] [Eqv α] {x y : α} : eqD x y = true ↔ x = y := Eqv.eqv x y
theorem eqD_dec {α : Type} [Py α] [Eqv α] [DecidableEq α] {x y : α} : eqD x y = decide (x = y) := by
  by_cases h : x = y
  · rw [decide_eq_true h]; exact eqD_iff.mpr h
  · rw [decide_eq_false h]
    cases e : eqD x y with
    | false => rfl
    | true => exact absurd (eqD_iff.mp e) h
theorem eqD_self {α : Type} [Py α] [Eqv α] (x : α) : eqD x x = true := eqD_iff.mpr rfl
/-- what may be laid at all: the texts in it are of signs that there are -/
class Lay (α : Type) [Py α] where
  ok : α → Prop
  lay : ∀ x : α, ok x → (toPy x).canLay0 = true
theorem canLayAll_map {α : Type} [Py α] [Lay α] : ∀ xs : List α, (∀ x ∈ xs, Lay.ok x) → PyData.canLayAll0 (xs.map Py.toPy) = true
  | [], _ => by simp [PyData.canLayAll0]
  | x :: xs, h => by
    simp only [List.map_cons, PyData.canLayAll0, Bool.and_eq_true]
    exact ⟨Lay.lay x (h x List.mem_cons_self), canLayAll_map xs fun y hy => h y (List.mem_cons_of_mem _ hy)⟩
instance : Lay Int := ⟨fun _ => True, fun x _ => by simp [toPy, Py.toPy, PyData.canLay0]⟩
instance : Lay Bool := ⟨fun _ => True, fun x _ => by simp [toPy, Py.toPy, PyData.canLay0]⟩
instance : Lay Str := ⟨fun x => PyData.strOk x = true, fun x h => by simpa [toPy, Py.toPy, PyData.canLay0] using h⟩
instance {α : Type} [Py α] [Lay α] : Lay (List α) := ⟨fun xs => ∀ x ∈ xs, Lay.ok x, fun xs h => by
  show PyData.canLay0 (.list (xs.map Py.toPy)) = true
  simp only [PyData.canLay0]
  exact canLayAll_map xs h⟩
instance {α β : Type} [Py α] [Py β] [Lay α] [Lay β] : Lay (α × β) := ⟨fun x => Lay.ok x.1 ∧ Lay.ok x.2, fun x h => by
  show PyData.canLay0 (.tuple [toPy x.1, toPy x.2]) = true
  simp only [PyData.canLay0, PyData.canLayAll0, Bool.and_eq_true, Bool.and_true]
  exact ⟨Lay.lay _ h.1, Lay.lay _ h.2⟩⟩
instance {α β γ : Type} [Py α] [Py β] [Py γ] [Lay α] [Lay β] [Lay γ] : Lay (P3 α β γ) := ⟨fun x => Lay.ok x.a ∧ Lay.ok x.b ∧ Lay.ok x.c, fun x h => by
  show PyData.canLay0 (.tuple [toPy x.a, toPy x.b, toPy x.c]) = true
  simp only [PyData.canLay0, PyData.canLayAll0, Bool.and_eq_true, Bool.and_true]
  exact ⟨Lay.lay _ h.1, Lay.lay _ h.2.1, Lay.lay _ h.2.2⟩⟩
instance {α β γ δ : Type} [Py α] [Py β] [Py γ] [Py δ] [Lay α] [Lay β] [Lay γ] [Lay δ] : Lay (P4 α β γ δ) := ⟨fun x => Lay.ok x.a ∧ Lay.ok x.b ∧ Lay.ok x.c ∧ Lay.ok x.d, fun x h => by
  show PyData.canLay0 (.tuple [toPy x.a, toPy x.b, toPy x.c, toPy x.d]) = true
  simp only [PyData.canLay0, PyData.canLayAll0, Bool.and_eq_true, Bool.and_true]
  exact ⟨Lay.lay _ h.1, Lay.lay _ h.2.1, Lay.lay _ h.2.2.1, Lay.lay _ h.2.2.2⟩⟩
theorem okD_of {α : Type} [Py α] [Eqv α] [Lay α] {x : α} (h : Lay.ok x) (hd : Eqv.d α ≤ 64 := by decide) : okD x := by
  unfold okD SeqAt.shaped
  rw [Bool.and_eq_true]
  exact ⟨Lay.lay x h, decide_eq_true (Nat.le_trans (Eqv.shape x) hd)⟩
/-- kinds in which no text stands -/
class Pl (α : Type) [Py α] : Prop where
  lay : ∀ x : α, (toPy x).canLay0 = true
theorem plAll {α : Type} [Py α] [Pl α] : ∀ xs : List α, PyData.canLayAll0 (xs.map Py.toPy) = true
  | [] => by simp [PyData.canLayAll0]
  | x :: xs => by
    simp only [List.map_cons, PyData.canLayAll0, Bool.and_eq_true]
    exact ⟨Pl.lay x, plAll xs⟩
instance : Pl Int := ⟨fun x => by simp [toPy, Py.toPy, PyData.canLay0]⟩
instance : Pl Bool := ⟨fun x => by simp [toPy, Py.toPy, PyData.canLay0]⟩
instance : Pl Unit := ⟨fun x => by simp [toPy, Py.toPy, PyData.canLay0]⟩
instance {α : Type} [Py α] [Pl α] : Pl (List α) := ⟨fun xs => by
  show PyData.canLay0 (.list (xs.map Py.toPy)) = true
  simp only [PyData.canLay0]
  exact plAll xs⟩
instance {α : Type} [Py α] [Pl α] : Pl (Option α) := ⟨fun x => by
  cases x with
  | none => show PyData.canLay0 .none = true; simp [PyData.canLay0]
  | some a => exact Pl.lay a⟩
instance {α β : Type} [Py α] [Py β] [Pl α] [Pl β] : Pl (α × β) := ⟨fun x => by
  show PyData.canLay0 (.tuple [toPy x.1, toPy x.2]) = true
  simp only [PyData.canLay0, PyData.canLayAll0, Bool.and_eq_true, Bool.and_true]
  exact ⟨Pl.lay _, Pl.lay _⟩⟩
instance {α β γ : Type} [Py α] [Py β] [Py γ] [Pl α] [Pl β] [Pl γ] : Pl (P3 α β γ) := ⟨fun x => by
  show PyData.canLay0 (.tuple [toPy x.a, toPy x.b, toPy x.c]) = true
  simp only [PyData.canLay0, PyData.canLayAll0, Bool.and_eq_true, Bool.and_true]
  exact ⟨Pl.lay _, Pl.lay _, Pl.lay _⟩⟩
instance {α β γ δ : Type} [Py α] [Py β] [Py γ] [Py δ] [Pl α] [Pl β] [Pl γ] [Pl δ] : Pl (P4 α β γ δ) := ⟨fun x => by
  show PyData.canLay0 (.tuple [toPy x.a, toPy x.b, toPy x.c, toPy x.d]) = true
  simp only [PyData.canLay0, PyData.canLayAll0, Bool.and_eq_true, Bool.and_true]
  exact ⟨Pl.lay _, Pl.lay _, Pl.lay _, Pl.lay _⟩⟩
/-- kinds that are never None -/
class Nn (α : Type) [Py α] : Prop where
  ne : ∀ x : α, toPy x ≠ .none
  l : ∀ x : α, PyData.eqv (toPy x) .none = false
  r : ∀ x : α, PyData.eqv .none (toPy x) = false
instance : Nn Int := ⟨fun x e => (by cases e), fun x => (by simp [toPy, Py.toPy, PyData.eqv]), fun x => (by simp [toPy, Py.toPy, PyData.eqv])⟩
instance : Nn Bool := ⟨fun x e => (by cases e), fun x => (by simp [toPy, Py.toPy, PyData.eqv]), fun x => (by simp [toPy, Py.toPy, PyData.eqv])⟩
instance : Nn Str := ⟨fun x e => (by cases e), fun x => (by simp [toPy, Py.toPy, PyData.eqv]), fun x => (by simp [toPy, Py.toPy, PyData.eqv])⟩
instance {α : Type} [Py α] : Nn (List α) := ⟨fun x e => (by cases e), fun x => (by simp [toPy, Py.toPy, PyData.eqv]), fun x => (by simp [toPy, Py.toPy, PyData.eqv])⟩
instance {α β : Type} [Py α] [Py β] : Nn (α × β) := ⟨fun x e => (by cases e), fun x => (by simp [toPy, Py.toPy, PyData.eqv]), fun x => (by simp [toPy, Py.toPy, PyData.eqv])⟩
instance {α β γ : Type} [Py α] [Py β] [Py γ] : Nn (P3 α β γ) := ⟨fun x e => (by cases e), fun x => (by simp [toPy, Py.toPy, PyData.eqv]), fun x => (by simp [toPy, Py.toPy, PyData.eqv])⟩
instance {α β γ δ : Type} [Py α] [Py β] [Py γ] [Py δ] : Nn (P4 α β γ δ) := ⟨fun x e => (by cases e), fun x => (by simp [toPy, Py.toPy, PyData.eqv]), fun x => (by simp [toPy, Py.toPy, PyData.eqv])⟩
theorem nn {α : Type} [Py α] [Nn α] {x : Option α} : ∀ b : α, x = some b → toPy b ≠ .none := fun b _ => Nn.ne b
instance {α : Type} [Py α] [Eqv α] [Nn α] : Eqv (Option α) := ⟨fun x y => by
  cases x with
  | none =>
    cases y with
    | none => show PyData.eqv .none .none = true ↔ _; simp [PyData.eqv]
    | some b => show PyData.eqv .none (toPy b) = true ↔ _; rw [Nn.r]; simp
  | some a =>
    cases y with
    | none => show PyData.eqv (toPy a) .none = true ↔ _; rw [Nn.l]; simp
    | some b => show PyData.eqv (toPy a) (toPy b) = true ↔ _; rw [Eqv.eqv a b]; simp, Eqv.d α, fun x => by
  cases x with
  | none => show PyData.depth .none ≤ _; simp [PyData.depth]
  | some a => exact Eqv.shape a⟩
theorem okD_pl {α : Type} [Py α] [Eqv α] [Pl α] (x : α) (hd : Eqv.d α ≤ 64 := by decide) : okD x := by
  unfold okD SeqAt.shaped
  rw [Bool.and_eq_true]
  exact ⟨Pl.lay x, decide_eq_true (Nat.le_trans (Eqv.shape x) hd)⟩
theorem inD_iff {α : Type} [Py α] [Eqv α] {x : α} {ys : List α} : inD x ys = true ↔ x ∈ ys := by
  unfold inD
  rw [List.any_eq_true]
  constructor
  · rintro ⟨y, hy, e⟩
    rw [← eqD_iff.mp e]; exact hy
  · intro h
    exact ⟨x, h, eqD_self x⟩
theorem inD_dec {α : Type} [Py α] [Eqv α] [DecidableEq α] {x : α} {ys : List α} : inD x ys = decide (x ∈ ys) := by
  by_cases h : x ∈ ys
  · rw [decide_eq_true h]; exact inD_iff.mpr h
  · rw [decide_eq_false h]
    cases e : inD x ys with
    | false => rfl
    | true => exact absurd (inD_iff.mp e) h
end Z

namespace M
open PySem L2 Z

structure ObHand where
  rows : (List PyData)
  at_ : Int
  held : (List Int)
  spoken : (List Int)
  way : Str
def ns_Hand : List Str := ["rows", "at", "held", "spoken", "way"]
def OC_Hand (K : PySem.W.Frag) (Ho : Hp) (v : V) (x : ObHand) (g : Grp) : Prop := ∃ (a dx C : Addr) (v0 v1 v2 v3 v4 : V) (g2 g3 : Grp), v = .ref a ∧ PySem.W.nsIn K mainGlobals "Hand" = some (some (.ref C)) ∧ Z.D K Ho v0 x.rows ∧ Z.D K Ho v1 x.at_ ∧ OL K Ho v2 x.held g2 ∧ OL K Ho v3 x.spoken g3 ∧ Z.D K Ho v4 x.way ∧ g = rowG [[(a, HO.ins C dx (ns_Hand.zip [v0, v1, v2, v3, v4]))], g2, g3] []
theorem OC_Hand.mo {K : PySem.W.Frag} {Ho : Hp} {Ho2 : Hp} {v : V} {x : ObHand} {g : Grp} (h : OC_Hand K Ho v x g) (e : Same Ho Ho2) : OC_Hand K Ho2 v x g := by
  obtain ⟨a, dx, C, v0, v1, v2, v3, v4, g2, g3, rfl, hC, d0, d1, d2, d3, d4, rfl⟩ := h
  exact ⟨a, dx, C, v0, v1, v2, v3, v4, g2, g3, rfl, hC, D.mo d0 e, D.mo d1 e, OL.mo d2 e, OL.mo d3 e, D.mo d4 e, rfl⟩
theorem OC_Hand.op {K : PySem.W.Frag} {H : Hp} {Ho : Hp} {v : V} {x : ObHand} {g : Grp} {R : Grp} {q : Addr} {P : Prop} (c : CF K q "Hand" ns_Hand) (o : OC_Hand K Ho v x g) (z : Zs (g ++ R) H Ho) (k : ∀ (a dx : Addr) (v0 v1 v2 v3 v4 : V) (g2 g3 : Grp), v = .ref a → g = rowG [[(a, HO.ins q dx (ns_Hand.zip [v0, v1, v2, v3, v4]))], g2, g3] [] → Z.D K Ho v0 x.rows → Z.D K Ho v1 x.at_ → OL K Ho v2 x.held g2 → OL K Ho v3 x.spoken g3 → Z.D K Ho v4 x.way → Zs ([(a, HO.ins q dx (ns_Hand.zip [v0, v1, v2, v3, v4]))] ++ (g2 ++ (g3 ++ R))) H Ho → P) : P := by
  obtain ⟨a, dx, C, v0, v1, v2, v3, v4, g2, g3, rfl, hC, d0, d1, d2, d3, d4, rfl⟩ := o
  obtain rfl := c.eq hC
  rw [rowG_app] at z
  exact k a dx v0 v1 v2 v3 v4 g2 g3 rfl rfl d0 d1 d2 d3 d4 z
theorem OC_Hand.cl {K : PySem.W.Frag} {H : Hp} {Ho : Hp} {x : ObHand} {R : Grp} {q : Addr} {P : Prop} {a dx : Addr} {v0 v1 v2 v3 v4 : V} {g2 g3 : Grp} (c : CF K q "Hand" ns_Hand) (d0 : Z.D K Ho v0 x.rows) (d1 : Z.D K Ho v1 x.at_) (d2 : OL K Ho v2 x.held g2) (d3 : OL K Ho v3 x.spoken g3) (d4 : Z.D K Ho v4 x.way) (z : Zs ([(a, HO.ins q dx (ns_Hand.zip [v0, v1, v2, v3, v4]))] ++ (g2 ++ (g3 ++ R))) H Ho) (k : ∀ g, OC_Hand K Ho (.ref a) x g → Zs (g ++ R) H Ho → P) : P := k _ ⟨a, dx, q, v0, v1, v2, v3, v4, g2, g3, rfl, c.at_, d0, d1, d2, d3, d4, rfl⟩ (by rw [rowG_app]; exact z)
def BC_Hand (K : PySem.W.Frag) (R : Grp) (Ho : Hp) (v : V) (x : ObHand) : Prop := ∃ g, OC_Hand K Ho v x g ∧ ∀ r ∈ g, r ∈ R
theorem BC_Hand.mo {K : PySem.W.Frag} {Ho : Hp} {Ho2 : Hp} {v : V} {x : ObHand} {R : Grp} (h : BC_Hand K R Ho v x) (e : Same Ho Ho2) : BC_Hand K R Ho2 v x := by
  obtain ⟨g, o, m⟩ := h
  exact ⟨g, o.mo e, m⟩
theorem BC_Hand.sub {K : PySem.W.Frag} {Ho : Hp} {v : V} {x : ObHand} {R : Grp} {R2 : Grp} (h : BC_Hand K R Ho v x) (e : ∀ r ∈ R, r ∈ R2) : BC_Hand K R2 Ho v x := by
  obtain ⟨g, o, m⟩ := h
  exact ⟨g, o, fun r hr => e r (m r hr)⟩
theorem OC_Hand.rd {K : PySem.W.Frag} {Ho : Hp} {v : V} {x : ObHand} {g : Grp} {R : Grp} {q : Addr} {P : Prop} (c : CF K q "Hand" ns_Hand) (o : OC_Hand K Ho v x g) (m : ∀ r ∈ g, r ∈ R) (k : ∀ (a dx : Addr) (v0 v1 v2 v3 v4 : V) (g2 g3 : Grp), v = .ref a → Z.D K Ho v0 x.rows → Z.D K Ho v1 x.at_ → OL K Ho v2 x.held g2 → OL K Ho v3 x.spoken g3 → Z.D K Ho v4 x.way → (∀ r ∈ ([(a, HO.ins q dx (ns_Hand.zip [v0, v1, v2, v3, v4]))] : Grp), r ∈ R) → (∀ r ∈ g2, r ∈ R) → (∀ r ∈ g3, r ∈ R) → P) : P := by
  obtain ⟨a, dx, C, v0, v1, v2, v3, v4, g2, g3, rfl, hC, d0, d1, d2, d3, d4, rfl⟩ := o
  obtain rfl := c.eq hC
  exact k a dx v0 v1 v2 v3 v4 g2 g3 rfl d0 d1 d2 d3 d4 (fun r h => m r (mg0 r h)) (fun r h => m r ((mgS mg0) r h)) (fun r h => m r ((mgS (mgS mg0)) r h))
theorem OC_Hand.bo {K : PySem.W.Frag} {Ho : Hp} {x : ObHand} {R : Grp} {q : Addr} {a dx : Addr} {v0 v1 v2 v3 v4 : V} {g2 g3 : Grp} (c : CF K q "Hand" ns_Hand) (d0 : Z.D K Ho v0 x.rows) (d1 : Z.D K Ho v1 x.at_) (d2 : OL K Ho v2 x.held g2) (d3 : OL K Ho v3 x.spoken g3) (d4 : Z.D K Ho v4 x.way) (mi : ∀ r ∈ ([(a, HO.ins q dx (ns_Hand.zip [v0, v1, v2, v3, v4]))] : Grp), r ∈ R) (mg2 : ∀ r ∈ g2, r ∈ R) (mg3 : ∀ r ∈ g3, r ∈ R) : BC_Hand K R Ho (.ref a) x := ⟨_, ⟨a, dx, q, v0, v1, v2, v3, v4, g2, g3, rfl, c.at_, d0, d1, d2, d3, d4, rfl⟩, fun r h => (List.mem_append.mp h).elim (fun h => mi r h) (fun h => (List.mem_append.mp h).elim (fun h => mg2 r h) (fun h => (List.mem_append.mp h).elim (fun h => mg3 r h) (fun h => nomatch h)))⟩
theorem OC_Hand.met {K : PySem.W.Frag} {H : Hp} {Ho : Hp} {v : V} {x : ObHand} {g : Grp} {R : Grp} {q : Addr} {f : Str} {G : V → Hp → Prop} (c : CF K q "Hand" ns_Hand) (o : OC_Hand K Ho v x g) (m : ∀ r ∈ g, r ∈ R) (z : Zs R H Ho) (hn : f ∉ ns_Hand) (k : G v H) : MetK q f G v H := by
  obtain ⟨a, dx, C, v0, v1, v2, v3, v4, g2, g3, rfl, hC, d0, d1, d2, d3, d4, rfl⟩ := o
  obtain rfl := c.eq hC
  exact ⟨a, dx, _, rfl, (z.rt _ (m _ (List.mem_append_left _ List.mem_cons_self))).1, lk_none hn, k⟩
theorem BC_Hand.met {K : PySem.W.Frag} {H : Hp} {Ho : Hp} {v : V} {x : ObHand} {R : Grp} {q : Addr} {R2 : Grp} {f : Str} {G : V → Hp → Prop} (c : CF K q "Hand" ns_Hand) (h : BC_Hand K R Ho v x) (m : ∀ r ∈ R, r ∈ R2) (z : Zs R2 H Ho) (hn : f ∉ ns_Hand) (k : G v H) : MetK q f G v H := by
  obtain ⟨g, o, m0⟩ := h
  exact OC_Hand.met c o (fun r hr => m r (m0 r hr)) z hn k
instance : Py ObHand := ⟨fun x => pyIns "Hand" ns_Hand [toPy x.rows, toPy x.at_, toPy x.held, toPy x.spoken, toPy x.way]⟩
instance : OwnD OC_Hand where
  mo := fun o e => OC_Hand.mo o e
  rd := fun o e m => by
    obtain ⟨a, dx, C, v0, v1, v2, v3, v4, g2, g3, rfl, hC, d0, d1, d2, d3, d4, rfl⟩ := o
    exact Dq.ins hC (m _ (List.mem_append_left _ List.mem_cons_self)) (DqAll.cons (D.mo d0 e) (DqAll.cons (D.mo d1 e) (DqAll.cons (OwnD.rd (P := OL) d2 e (fun r h => m r (List.mem_append_right _ (List.mem_append_left _ h)))) (DqAll.cons (OwnD.rd (P := OL) d3 e (fun r h => m r (List.mem_append_right _ (List.mem_append_right _ (List.mem_append_left _ h))))) (DqAll.cons (D.mo d4 e) DqAll.nil)))))
theorem BC_Hand.rd {K : PySem.W.Frag} {H : Hp} {Ho : Hp} {v : V} {x : ObHand} {R : Grp} (h : BC_Hand K R Ho v x) (z : Zs R H Ho) : Z.D K H v x := by
  obtain ⟨g, o, m⟩ := h
  exact OwnD.rd (P := OC_Hand) o z.le (z.in_ m)
theorem OC_Hand.f_rows {K : PySem.W.Frag} {H : Hp} {Ho : Hp} {v : V} {x : ObHand} {g : Grp} {R : Grp} {q : Addr} {Q : VK} (c : CF K q "Hand" ns_Hand) (o : OC_Hand K Ho v x g) (m : ∀ r ∈ g, r ∈ R) (z : Zs R H Ho) (k : ∀ u, Z.D K Ho u x.rows → Q u H) : FldK K Q "rows" v H := by
  obtain ⟨a, dx, C, v0, v1, v2, v3, v4, g2, g3, rfl, hC, d0, d1, d2, d3, d4, rfl⟩ := o
  obtain rfl := c.eq hC
  exact o_fld (i := 0) c (fun r h => m r (List.mem_append_left _ h)) z rfl rfl (k _ d0)
theorem OC_Hand.f_at {K : PySem.W.Frag} {H : Hp} {Ho : Hp} {v : V} {x : ObHand} {g : Grp} {R : Grp} {q : Addr} {Q : VK} (c : CF K q "Hand" ns_Hand) (o : OC_Hand K Ho v x g) (m : ∀ r ∈ g, r ∈ R) (z : Zs R H Ho) (k : ∀ u, Z.D K Ho u x.at_ → Q u H) : FldK K Q "at" v H := by
  obtain ⟨a, dx, C, v0, v1, v2, v3, v4, g2, g3, rfl, hC, d0, d1, d2, d3, d4, rfl⟩ := o
  obtain rfl := c.eq hC
  exact o_fld (i := 1) c (fun r h => m r (List.mem_append_left _ h)) z rfl rfl (k _ d1)
theorem OC_Hand.f_way {K : PySem.W.Frag} {H : Hp} {Ho : Hp} {v : V} {x : ObHand} {g : Grp} {R : Grp} {q : Addr} {Q : VK} (c : CF K q "Hand" ns_Hand) (o : OC_Hand K Ho v x g) (m : ∀ r ∈ g, r ∈ R) (z : Zs R H Ho) (k : ∀ u, Z.D K Ho u x.way → Q u H) : FldK K Q "way" v H := by
  obtain ⟨a, dx, C, v0, v1, v2, v3, v4, g2, g3, rfl, hC, d0, d1, d2, d3, d4, rfl⟩ := o
  obtain rfl := c.eq hC
  exact o_fld (i := 4) c (fun r h => m r (List.mem_append_left _ h)) z rfl rfl (k _ d4)
structure ObWorks where
  shared : (List Int)
  team : (List ObHand)
  past : (List Int)
def ns_Works : List Str := ["shared", "team", "past"]
def OC_Works (K : PySem.W.Frag) (Ho : Hp) (v : V) (x : ObWorks) (g : Grp) : Prop := ∃ (a dx C : Addr) (v0 v1 v2 : V) (g0 g1 g2 : Grp), v = .ref a ∧ PySem.W.nsIn K mainGlobals "Works" = some (some (.ref C)) ∧ OL K Ho v0 x.shared g0 ∧ OLo OC_Hand K Ho v1 x.team g1 ∧ OL K Ho v2 x.past g2 ∧ g = rowG [[(a, HO.ins C dx (ns_Works.zip [v0, v1, v2]))], g0, g1, g2] []
theorem OC_Works.mo {K : PySem.W.Frag} {Ho : Hp} {Ho2 : Hp} {v : V} {x : ObWorks} {g : Grp} (h : OC_Works K Ho v x g) (e : Same Ho Ho2) : OC_Works K Ho2 v x g := by
  obtain ⟨a, dx, C, v0, v1, v2, g0, g1, g2, rfl, hC, d0, d1, d2, rfl⟩ := h
  exact ⟨a, dx, C, v0, v1, v2, g0, g1, g2, rfl, hC, OL.mo d0 e, OLo.mo d1 e, OL.mo d2 e, rfl⟩
theorem OC_Works.op {K : PySem.W.Frag} {H : Hp} {Ho : Hp} {v : V} {x : ObWorks} {g : Grp} {R : Grp} {q : Addr} {P : Prop} (c : CF K q "Works" ns_Works) (o : OC_Works K Ho v x g) (z : Zs (g ++ R) H Ho) (k : ∀ (a dx : Addr) (v0 v1 v2 : V) (g0 g1 g2 : Grp), v = .ref a → g = rowG [[(a, HO.ins q dx (ns_Works.zip [v0, v1, v2]))], g0, g1, g2] [] → OL K Ho v0 x.shared g0 → OLo OC_Hand K Ho v1 x.team g1 → OL K Ho v2 x.past g2 → Zs ([(a, HO.ins q dx (ns_Works.zip [v0, v1, v2]))] ++ (g0 ++ (g1 ++ (g2 ++ R)))) H Ho → P) : P := by
  obtain ⟨a, dx, C, v0, v1, v2, g0, g1, g2, rfl, hC, d0, d1, d2, rfl⟩ := o
  obtain rfl := c.eq hC
  rw [rowG_app] at z
  exact k a dx v0 v1 v2 g0 g1 g2 rfl rfl d0 d1 d2 z
theorem OC_Works.cl {K : PySem.W.Frag} {H : Hp} {Ho : Hp} {x : ObWorks} {R : Grp} {q : Addr} {P : Prop} {a dx : Addr} {v0 v1 v2 : V} {g0 g1 g2 : Grp} (c : CF K q "Works" ns_Works) (d0 : OL K Ho v0 x.shared g0) (d1 : OLo OC_Hand K Ho v1 x.team g1) (d2 : OL K Ho v2 x.past g2) (z : Zs ([(a, HO.ins q dx (ns_Works.zip [v0, v1, v2]))] ++ (g0 ++ (g1 ++ (g2 ++ R)))) H Ho) (k : ∀ g, OC_Works K Ho (.ref a) x g → Zs (g ++ R) H Ho → P) : P := k _ ⟨a, dx, q, v0, v1, v2, g0, g1, g2, rfl, c.at_, d0, d1, d2, rfl⟩ (by rw [rowG_app]; exact z)
def BC_Works (K : PySem.W.Frag) (R : Grp) (Ho : Hp) (v : V) (x : ObWorks) : Prop := ∃ g, OC_Works K Ho v x g ∧ ∀ r ∈ g, r ∈ R
theorem BC_Works.mo {K : PySem.W.Frag} {Ho : Hp} {Ho2 : Hp} {v : V} {x : ObWorks} {R : Grp} (h : BC_Works K R Ho v x) (e : Same Ho Ho2) : BC_Works K R Ho2 v x := by
  obtain ⟨g, o, m⟩ := h
  exact ⟨g, o.mo e, m⟩
theorem BC_Works.sub {K : PySem.W.Frag} {Ho : Hp} {v : V} {x : ObWorks} {R : Grp} {R2 : Grp} (h : BC_Works K R Ho v x) (e : ∀ r ∈ R, r ∈ R2) : BC_Works K R2 Ho v x := by
  obtain ⟨g, o, m⟩ := h
  exact ⟨g, o, fun r hr => e r (m r hr)⟩
theorem OC_Works.rd {K : PySem.W.Frag} {Ho : Hp} {v : V} {x : ObWorks} {g : Grp} {R : Grp} {q : Addr} {P : Prop} (c : CF K q "Works" ns_Works) (o : OC_Works K Ho v x g) (m : ∀ r ∈ g, r ∈ R) (k : ∀ (a dx : Addr) (v0 v1 v2 : V) (g0 g1 g2 : Grp), v = .ref a → OL K Ho v0 x.shared g0 → OLo OC_Hand K Ho v1 x.team g1 → OL K Ho v2 x.past g2 → (∀ r ∈ ([(a, HO.ins q dx (ns_Works.zip [v0, v1, v2]))] : Grp), r ∈ R) → (∀ r ∈ g0, r ∈ R) → (∀ r ∈ g1, r ∈ R) → (∀ r ∈ g2, r ∈ R) → P) : P := by
  obtain ⟨a, dx, C, v0, v1, v2, g0, g1, g2, rfl, hC, d0, d1, d2, rfl⟩ := o
  obtain rfl := c.eq hC
  exact k a dx v0 v1 v2 g0 g1 g2 rfl d0 d1 d2 (fun r h => m r (mg0 r h)) (fun r h => m r ((mgS mg0) r h)) (fun r h => m r ((mgS (mgS mg0)) r h)) (fun r h => m r ((mgS (mgS (mgS mg0))) r h))
theorem OC_Works.bo {K : PySem.W.Frag} {Ho : Hp} {x : ObWorks} {R : Grp} {q : Addr} {a dx : Addr} {v0 v1 v2 : V} {g0 g1 g2 : Grp} (c : CF K q "Works" ns_Works) (d0 : OL K Ho v0 x.shared g0) (d1 : OLo OC_Hand K Ho v1 x.team g1) (d2 : OL K Ho v2 x.past g2) (mi : ∀ r ∈ ([(a, HO.ins q dx (ns_Works.zip [v0, v1, v2]))] : Grp), r ∈ R) (mg0 : ∀ r ∈ g0, r ∈ R) (mg1 : ∀ r ∈ g1, r ∈ R) (mg2 : ∀ r ∈ g2, r ∈ R) : BC_Works K R Ho (.ref a) x := ⟨_, ⟨a, dx, q, v0, v1, v2, g0, g1, g2, rfl, c.at_, d0, d1, d2, rfl⟩, fun r h => (List.mem_append.mp h).elim (fun h => mi r h) (fun h => (List.mem_append.mp h).elim (fun h => mg0 r h) (fun h => (List.mem_append.mp h).elim (fun h => mg1 r h) (fun h => (List.mem_append.mp h).elim (fun h => mg2 r h) (fun h => nomatch h))))⟩
theorem OC_Works.met {K : PySem.W.Frag} {H : Hp} {Ho : Hp} {v : V} {x : ObWorks} {g : Grp} {R : Grp} {q : Addr} {f : Str} {G : V → Hp → Prop} (c : CF K q "Works" ns_Works) (o : OC_Works K Ho v x g) (m : ∀ r ∈ g, r ∈ R) (z : Zs R H Ho) (hn : f ∉ ns_Works) (k : G v H) : MetK q f G v H := by
  obtain ⟨a, dx, C, v0, v1, v2, g0, g1, g2, rfl, hC, d0, d1, d2, rfl⟩ := o
  obtain rfl := c.eq hC
  exact ⟨a, dx, _, rfl, (z.rt _ (m _ (List.mem_append_left _ List.mem_cons_self))).1, lk_none hn, k⟩
theorem BC_Works.met {K : PySem.W.Frag} {H : Hp} {Ho : Hp} {v : V} {x : ObWorks} {R : Grp} {q : Addr} {R2 : Grp} {f : Str} {G : V → Hp → Prop} (c : CF K q "Works" ns_Works) (h : BC_Works K R Ho v x) (m : ∀ r ∈ R, r ∈ R2) (z : Zs R2 H Ho) (hn : f ∉ ns_Works) (k : G v H) : MetK q f G v H := by
  obtain ⟨g, o, m0⟩ := h
  exact OC_Works.met c o (fun r hr => m r (m0 r hr)) z hn k
instance : Py ObWorks := ⟨fun x => pyIns "Works" ns_Works [toPy x.shared, toPy x.team, toPy x.past]⟩
instance : OwnD OC_Works where
  mo := fun o e => OC_Works.mo o e
  rd := fun o e m => by
    obtain ⟨a, dx, C, v0, v1, v2, g0, g1, g2, rfl, hC, d0, d1, d2, rfl⟩ := o
    exact Dq.ins hC (m _ (List.mem_append_left _ List.mem_cons_self)) (DqAll.cons (OwnD.rd (P := OL) d0 e (fun r h => m r (List.mem_append_right _ (List.mem_append_left _ h)))) (DqAll.cons (OwnD.rd (P := OLo OC_Hand) d1 e (fun r h => m r (List.mem_append_right _ (List.mem_append_right _ (List.mem_append_left _ h))))) (DqAll.cons (OwnD.rd (P := OL) d2 e (fun r h => m r (List.mem_append_right _ (List.mem_append_right _ (List.mem_append_right _ (List.mem_append_left _ h)))))) DqAll.nil)))
theorem BC_Works.rd {K : PySem.W.Frag} {H : Hp} {Ho : Hp} {v : V} {x : ObWorks} {R : Grp} (h : BC_Works K R Ho v x) (z : Zs R H Ho) : Z.D K H v x := by
  obtain ⟨g, o, m⟩ := h
  exact OwnD.rd (P := OC_Works) o z.le (z.in_ m)
def m_Hand___init__ (rows_ : (List PyData)) : W (ObHand) :=
  W.bind (W.ret rows_) fun self__rows_ => W.bind (W.ret (0 : Int)) fun self__at_ => W.guard ((("abcdefgh" : Str)).length ≤ sizeLine) (W.guard (repG ([(0 : Int)] : (List Int)) ((("abcdefgh" : Str)).length : Int)) (W.bind (W.ret (repL ([(0 : Int)] : (List Int)) ((("abcdefgh" : Str)).length : Int))) fun self__held_ => W.bind (W.ret ([] : (List Int))) fun self__spoken_ => W.bind (W.ret ("waits" : Str)) fun self__way_ => W.ret (⟨self__rows_, self__at_, self__held_, self__spoken_, self__way_⟩ : ObHand)))
def m_worth_now_R : Nat → (List Int) → PyData → W (Int)
  | 0, _, _ => W.bad
  | n + 1, held_, told_ =>
  W.bind (W.opt (pyIx told_ (0 : Int))) fun t1 => W.guard (okD t1 ∧ okD ("number" : Str)) (W.ite (eqD t1 ("number" : Str)) (W.bind (W.opt (pyIx told_ (1 : Int))) fun t3 => W.bind (W.opt (Fr.fr t3 : Option Int)) fun t5 => W.ret t5) (W.bind (W.opt (pyIx told_ (0 : Int))) fun t7 => W.guard (okD t7 ∧ okD ("box" : Str)) (W.ite (eqD t7 ("box" : Str)) (W.bind (W.opt (pyIx told_ (1 : Int))) fun t9 => W.bind (W.opt (Fr.fr t9 : Option Str)) fun t11 => W.bind (W.opt (sIdx ("abcdefgh" : Str) t11)) fun t13 => W.bind (W.opt (atI held_ t13)) fun t14 => W.ret t14) (W.bind (W.opt (pyIx told_ (0 : Int))) fun t16 => W.guard (okD t16 ∧ okD ("plus" : Str)) (W.ite (eqD t16 ("plus" : Str)) (W.bind (W.opt (pyIx told_ (1 : Int))) fun t18 => W.bind (m_worth_now_R n held_ t18) fun t20 => W.bind (W.opt (pyIx told_ (2 : Int))) fun t24 => W.bind (m_worth_now_R n held_ t24) fun t26 => W.guard (0 < (1000 : Int)) (W.ret ((t20 + t26) % (1000 : Int)))) (W.bind (W.opt (pyIx told_ (1 : Int))) fun t30 => W.bind (m_worth_now_R n held_ t30) fun t32 => W.bind (W.opt (pyIx told_ (2 : Int))) fun t36 => W.bind (m_worth_now_R n held_ t36) fun t38 => W.guard (0 < (1000 : Int)) (W.ret ((t32 - t38) % (1000 : Int)))))))))
def m_worth_now (held_ : (List Int)) (told_ : PyData) : W (Int) := m_worth_now_R 3 held_ told_
def m_is_so (held_ : (List Int)) (sign_ : Str) (one_ : PyData) (other_ : PyData) : W (Bool) :=
  W.ite (decide (sign_ = ("=" : Str))) (W.bind (m_worth_now held_ one_) fun t1 => W.bind (m_worth_now held_ other_) fun t5 => W.ret (decide (t1 = t5))) (W.bind (m_worth_now held_ one_) fun t9 => W.bind (m_worth_now held_ other_) fun t13 => W.ret (decide (t9 < t13)))
def m_put_in (hand_ : ObHand) (box_ : Str) (number_ : Int) : W (Unit × ObHand) :=
  W.bind (W.ret hand_.rows) fun hand__rows_ => W.bind (W.ret hand_.at_) fun hand__at_ => W.bind (W.ret hand_.held) fun hand__held_ => W.bind (W.ret hand_.spoken) fun hand__spoken_ => W.bind (W.ret hand_.way) fun hand__way_ => W.bind (W.opt (sIdx ("abcdefgh" : Str) box_)) fun t2 => W.bind (sti hand__held_ t2 number_) fun hand__held_ => W.ret ((), (⟨hand__rows_, hand__at_, hand__held_, hand__spoken_, hand__way_⟩ : ObHand))
def m_do_own (hand_ : ObHand) (row_ : PyData) : W (Unit × ObHand) :=
  W.bind (W.ret hand_.rows) fun hand__rows_ => W.bind (W.ret hand_.at_) fun hand__at_ => W.bind (W.ret hand_.held) fun hand__held_ => W.bind (W.ret hand_.spoken) fun hand__spoken_ => W.bind (W.ret hand_.way) fun hand__way_ => W.bind (W.ret (hand__at_ + (1 : Int))) fun hand__at_ => W.bind (W.opt (pyIx row_ (0 : Int))) fun t2 => W.guard (okD t2 ∧ okD ("let" : Str)) (W.ite (eqD t2 ("let" : Str)) (W.bind (W.opt (pyIx row_ (1 : Int))) fun t4 => W.bind (W.opt (Fr.fr t4 : Option Str)) fun t6 => W.bind (W.opt (pyIx row_ (2 : Int))) fun t8 => W.bind (m_worth_now hand__held_ t8) fun t10 => W.bind2 (m_put_in (⟨hand__rows_, hand__at_, hand__held_, hand__spoken_, hand__way_⟩ : ObHand) t6 t10) fun t16 hand_ => W.bind (W.ret hand_.rows) fun hand__rows_ => W.bind (W.ret hand_.at_) fun hand__at_ => W.bind (W.ret hand_.held) fun hand__held_ => W.bind (W.ret hand_.spoken) fun hand__spoken_ => W.bind (W.ret hand_.way) fun hand__way_ => W.ret ((), (⟨hand__rows_, hand__at_, hand__held_, hand__spoken_, hand__way_⟩ : ObHand))) (W.bind (W.opt (pyIx row_ (0 : Int))) fun t23 => W.guard (okD t23 ∧ okD ("say" : Str)) (W.ite (eqD t23 ("say" : Str)) (W.bind (W.opt (pyIx row_ (1 : Int))) fun t25 => W.bind (m_worth_now hand__held_ t25) fun t27 => W.bind (apd hand__spoken_ t27) fun hand__spoken_ => W.ret ((), (⟨hand__rows_, hand__at_, hand__held_, hand__spoken_, hand__way_⟩ : ObHand))) (W.bind (W.opt (pyIx row_ (0 : Int))) fun t33 => W.guard (okD t33 ∧ okD ("go" : Str)) (W.ite (eqD t33 ("go" : Str)) (W.bind (W.opt (pyIx row_ (1 : Int))) fun t35 => W.bind (W.opt (Fr.fr t35 : Option Int)) fun t37 => W.bind (W.ret t37) fun hand__at_ => W.ret ((), (⟨hand__rows_, hand__at_, hand__held_, hand__spoken_, hand__way_⟩ : ObHand))) (W.bind (W.opt (pyIx row_ (1 : Int))) fun t42 => W.bind (W.opt (Fr.fr t42 : Option Str)) fun t44 => W.bind (W.opt (pyIx row_ (2 : Int))) fun t46 => W.bind (W.opt (pyIx row_ (3 : Int))) fun t48 => W.bind (m_is_so hand__held_ t44 t46 t48) fun t50 => W.ite (!t50) (W.bind (W.opt (pyIx row_ (4 : Int))) fun t54 => W.bind (W.opt (Fr.fr t54 : Option Int)) fun t56 => W.bind (W.ret t56) fun hand__at_ => W.ret ((), (⟨hand__rows_, hand__at_, hand__held_, hand__spoken_, hand__way_⟩ : ObHand))) (W.ret ((), (⟨hand__rows_, hand__at_, hand__held_, hand__spoken_, hand__way_⟩ : ObHand)))))))))
def m_lead_on_L1 (done_ : Int) (hand_ : ObHand) : W (Ctl (Unit × ObHand) (ObHand)) :=
  W.bind (W.ret hand_.rows) fun hand__rows_ => W.bind (W.ret hand_.at_) fun hand__at_ => W.bind (W.ret hand_.held) fun hand__held_ => W.bind (W.ret hand_.spoken) fun hand__spoken_ => W.bind (W.ret hand_.way) fun hand__way_ => W.ite (decide (hand__at_ = ((hand__rows_).length : Int))) (W.bind (W.ret ("ends" : Str)) fun hand__way_ => W.ret (Ctl.rt ((), (⟨hand__rows_, hand__at_, hand__held_, hand__spoken_, hand__way_⟩ : ObHand)))) (W.bind (W.opt (atI hand__rows_ hand__at_)) fun t9 => W.bind (W.ret t9) fun row_ => W.bind (W.opt (pyIx row_ (0 : Int))) fun t11 => W.bind (W.opt (Fr.fr t11 : Option Str)) fun t15 => W.ite (decide (t15 ∈ ([("load" : Str), ("store" : Str), ("swap" : Str)] : List Str))) (W.bind (W.ret ("waits" : Str)) fun hand__way_ => W.ret (Ctl.rt ((), (⟨hand__rows_, hand__at_, hand__held_, hand__spoken_, hand__way_⟩ : ObHand)))) (W.ite (decide (done_ < (60 : Int))) (W.bind2 (m_do_own (⟨hand__rows_, hand__at_, hand__held_, hand__spoken_, hand__way_⟩ : ObHand) row_) fun t22 hand_ => W.bind (W.ret hand_.rows) fun hand__rows_ => W.bind (W.ret hand_.at_) fun hand__at_ => W.bind (W.ret hand_.held) fun hand__held_ => W.bind (W.ret hand_.spoken) fun hand__spoken_ => W.bind (W.ret hand_.way) fun hand__way_ => W.ret (Ctl.nx (⟨hand__rows_, hand__at_, hand__held_, hand__spoken_, hand__way_⟩ : ObHand))) (W.ret (Ctl.nx (⟨hand__rows_, hand__at_, hand__held_, hand__spoken_, hand__way_⟩ : ObHand)))))
def m_lead_on_R1 (hand_ : ObHand) : W (Unit × ObHand) :=
  W.bind (W.ret hand_.rows) fun hand__rows_ => W.bind (W.ret hand_.at_) fun hand__at_ => W.bind (W.ret hand_.held) fun hand__held_ => W.bind (W.ret hand_.spoken) fun hand__spoken_ => W.bind (W.ret hand_.way) fun hand__way_ => W.bind (W.ret ("lost" : Str)) fun hand__way_ => W.ret ((), (⟨hand__rows_, hand__at_, hand__held_, hand__spoken_, hand__way_⟩ : ObHand))
def m_lead_on (hand_ : ObHand) : W (Unit × ObHand) :=
  W.bind (W.ret hand_.rows) fun hand__rows_ => W.bind (W.ret hand_.at_) fun hand__at_ => W.bind (W.ret hand_.held) fun hand__held_ => W.bind (W.ret hand_.spoken) fun hand__spoken_ => W.bind (W.ret hand_.way) fun hand__way_ => W.bind (W.ret (⟨hand__rows_, hand__at_, hand__held_, hand__spoken_, hand__way_⟩ : ObHand)) fun hand_ => W.guard (rngOk 0 ((60 : Int) + (1 : Int))) (W.bind (W.forC (rng 0 ((60 : Int) + (1 : Int))) hand_ (fun a s => m_lead_on_L1 a s)) fun c => W.after c (fun s => m_lead_on_R1 s))
def m_do_touch (hand_ : ObHand) (shared_ : (List Int)) : W ((P4 Str Int (Option Int) (Option Int)) × ObHand × (List Int)) :=
  W.bind (W.ret hand_.rows) fun hand__rows_ => W.bind (W.ret hand_.at_) fun hand__at_ => W.bind (W.ret hand_.held) fun hand__held_ => W.bind (W.ret hand_.spoken) fun hand__spoken_ => W.bind (W.ret hand_.way) fun hand__way_ => W.bind (W.opt (atI hand__rows_ hand__at_)) fun t2 => W.bind (W.ret t2) fun row_ => W.bind (W.ret (hand__at_ + (1 : Int))) fun hand__at_ => W.bind (W.opt (pyIx row_ (0 : Int))) fun t4 => W.guard (okD t4 ∧ okD ("store" : Str)) (W.ite (eqD t4 ("store" : Str)) (W.bind (W.opt (pyIx row_ (2 : Int))) fun t6 => W.bind (m_worth_now hand__held_ t6) fun t8 => W.bind (W.opt (pyIx row_ (1 : Int))) fun t12 => W.bind (W.opt (Fr.fr t12 : Option Int)) fun t14 => W.bind (sti shared_ t14 t8) fun shared_ => W.bind (W.opt (pyIx row_ (1 : Int))) fun t16 => W.bind (W.opt (Fr.fr t16 : Option Int)) fun t18 => W.bind (W.opt (pyIx row_ (1 : Int))) fun t20 => W.bind (W.opt (Fr.fr t20 : Option Int)) fun t22 => W.bind (W.opt (atI shared_ t22)) fun t24 => W.ret ((⟨("store" : Str), t18, (none : (Option Int)), (some t24)⟩ : (P4 Str Int (Option Int) (Option Int))), (⟨hand__rows_, hand__at_, hand__held_, hand__spoken_, hand__way_⟩ : ObHand), shared_)) (W.bind (W.opt (pyIx row_ (1 : Int))) fun t30 => W.bind (W.opt (Fr.fr t30 : Option Str)) fun t32 => W.bind (W.opt (pyIx row_ (2 : Int))) fun t34 => W.bind (W.opt (Fr.fr t34 : Option Int)) fun t36 => W.bind (W.ret t32) fun t38 => W.bind (W.ret t36) fun t39 => (fun box_ cell_ => W.bind (W.opt (atI shared_ cell_)) fun t40 => W.bind (W.ret t40) fun found_ => W.bind (W.opt (pyIx row_ (0 : Int))) fun t42 => W.guard (okD t42 ∧ okD ("load" : Str)) (W.ite (eqD t42 ("load" : Str)) (W.bind2 (m_put_in (⟨hand__rows_, hand__at_, hand__held_, hand__spoken_, hand__way_⟩ : ObHand) box_ found_) fun t46 hand_ => W.bind (W.ret hand_.rows) fun hand__rows_ => W.bind (W.ret hand_.at_) fun hand__at_ => W.bind (W.ret hand_.held) fun hand__held_ => W.bind (W.ret hand_.spoken) fun hand__spoken_ => W.bind (W.ret hand_.way) fun hand__way_ => W.ret ((⟨("load" : Str), cell_, (some found_), (none : (Option Int))⟩ : (P4 Str Int (Option Int) (Option Int))), (⟨hand__rows_, hand__at_, hand__held_, hand__spoken_, hand__way_⟩ : ObHand), shared_)) (W.bind (W.opt (pyIx row_ (3 : Int))) fun t55 => W.bind (m_worth_now hand__held_ t55) fun t57 => W.bind (sti shared_ cell_ t57) fun shared_ => W.bind2 (m_put_in (⟨hand__rows_, hand__at_, hand__held_, hand__spoken_, hand__way_⟩ : ObHand) box_ found_) fun t63 hand_ => W.bind (W.ret hand_.rows) fun hand__rows_ => W.bind (W.ret hand_.at_) fun hand__at_ => W.bind (W.ret hand_.held) fun hand__held_ => W.bind (W.ret hand_.spoken) fun hand__spoken_ => W.bind (W.ret hand_.way) fun hand__way_ => W.bind (W.opt (atI shared_ cell_)) fun t68 => W.ret ((⟨("swap" : Str), cell_, (some found_), (some t68)⟩ : (P4 Str Int (Option Int) (Option Int))), (⟨hand__rows_, hand__at_, hand__held_, hand__spoken_, hand__way_⟩ : ObHand), shared_)))) t38 t39))
def m_hand_of (team_ : (List ObHand)) (number_ : Int) : W (Int) :=
  W.bind (W.ite (decide (number_ < (0 : Int))) (W.ret true) (W.ret (decide (number_ ≥ ((team_).length : Int))))) (fun t1 => W.ite t1 (W.bad) (W.bind (W.opt (atI team_ number_)) fun t5 => W.ret number_))
def m_Works_counts (self_ : ObWorks) : W ((List Int)) :=
  W.guard (rngOk 0 ((self_.team).length : Int)) (W.bind (compG (rng 0 ((self_.team).length : Int)) (fun hand_ => W.ret true) (fun hand_ => W.ret (cntZ self_.past hand_))) fun t8 => W.ret t8)
def m_likeness_L1 (hand_ : ObHand) (team_ : (List (P5 (List PyData) (Option Int) (List Int) (List Int) Str))) : W ((List (P5 (List PyData) (Option Int) (List Int) (List Int) Str))) :=
  W.bind (W.ret (none : (Option Int))) fun waits_at_ => W.bind (W.ite (decide (hand_.way = ("waits" : Str))) (W.bind (W.ret (some hand_.at_)) fun waits_at_ => W.ret (waits_at_)) (W.ret (waits_at_))) (fun s => (fun waits_at_ => W.bind (apd team_ (⟨hand_.rows, waits_at_, hand_.held, hand_.spoken, hand_.way⟩ : (P5 (List PyData) (Option Int) (List Int) (List Int) Str))) fun team_ => W.ret (team_)) s)
def m_likeness (works_ : ObWorks) : W ((P3 (List Int) (List (P5 (List PyData) (Option Int) (List Int) (List Int) Str)) (List Int))) :=
  W.bind (W.ret ([] : (List (P5 (List PyData) (Option Int) (List Int) (List Int) Str)))) fun team_ => W.bind (W.forL works_.team team_ (fun a s => m_likeness_L1 a s)) (fun s => (fun team_ => W.bind (m_Works_counts works_) fun t18 => W.ret (⟨works_.shared, team_, t18⟩ : (P3 (List Int) (List (P5 (List PyData) (Option Int) (List Int) (List Int) Str)) (List Int)))) s)
def m_first_numbers_L1 (number_ : Int) : W (Unit) :=
  W.ite ((decide (number_ < (0 : Int))) || (decide (number_ ≥ (1000 : Int)))) (W.bad) (W.ret (()))
def m_first_numbers (many_ : Int) (numbers_ : (Option (List Int))) : W ((List Int)) :=
  W.guard (∀ b, numbers_ = some b → toPy b ≠ .none) (W.ite (numbers_.isNone) (W.guard (repG ([(0 : Int)] : (List Int)) many_) (W.ret (repL ([(0 : Int)] : (List Int)) many_))) (W.bind (W.opt numbers_) fun t9 => W.ite (!decide (((t9).length : Int) = many_)) (W.bad) (W.bind (W.opt numbers_) fun t11 => W.bind (W.forL t11 () (fun a s => m_first_numbers_L1 a)) (fun _ => W.bind (W.opt numbers_) fun t15 => W.ret t15))))
def m_Works___init__ (program_ : (Int × (List (List PyData)))) (cells_ : (Option (List Int))) : W (ObWorks) :=
  W.bind (m_first_numbers program_.1 cells_) fun t2 => W.bind (W.ret t2) fun self__shared_ => W.bind (compG program_.2 (fun rows_ => W.ret true) (fun rows_ => W.bind (m_Hand___init__ rows_) fun t12 => W.ret t12)) fun t16 => W.bind (W.ret t16) fun self__team_ => W.bind (W.ret ([] : (List Int))) fun self__past_ => W.bind (mapL self__team_ m_lead_on) fun self__team_ => W.ret (⟨self__shared_, self__team_, self__past_⟩ : ObWorks)
def m_Works_turn (self_ : ObWorks) (hand_ : Int) : W ((P4 Str Int (Option Int) (Option Int)) × ObWorks) :=
  W.bind (W.ret self_.shared) fun self__shared_ => W.bind (W.ret self_.team) fun self__team_ => W.bind (W.ret self_.past) fun self__past_ => W.bind (m_hand_of self__team_ hand_) fun t2 => W.bind (W.ret t2) fun one__ix_ => W.bind (W.opt (atI self__team_ one__ix_)) fun one_ => W.ite (!decide (one_.way = ("waits" : Str))) (W.bad) (W.bind (m_do_touch one_ self__shared_) fun s => (fun t9 one_ self__shared_ => W.bind (W.ret t9) fun told_ => W.bind (apd self__past_ hand_) fun self__past_ => W.bind2 (m_lead_on one_) fun t13 one_ => W.bind (W.ret (setI self__team_ one__ix_ one_)) fun self__team_ => W.ret (told_, (⟨self__shared_, self__team_, self__past_⟩ : ObWorks))) s.1 s.2.1 s.2.2)
def m_Works_cells (self_ : ObWorks) : W ((List Int)) :=
  W.ret self_.shared
def m_hand_of_D (team_ : (List ObHand)) (number_ : Int) : W (ObHand) :=
  W.ite ((decide (number_ < (0 : Int))) || (decide (number_ ≥ ((team_).length : Int)))) (W.bad) (W.bind (W.opt (atI team_ number_)) fun t1 => W.ret t1)
def m_Works_boxes (self_ : ObWorks) (hand_ : Int) : W ((List Int)) :=
  W.bind (m_hand_of_D self_.team hand_) fun t2 => W.ret t2.held
def m_Works_said (self_ : ObWorks) (hand_ : Int) : W ((List Int)) :=
  W.bind (m_hand_of_D self_.team hand_) fun t2 => W.ret t2.spoken
def m_Works_how (self_ : ObWorks) (hand_ : Int) : W (Str) :=
  W.bind (m_hand_of_D self_.team hand_) fun t2 => W.ret t2.way
def m_Works___eq__ (self_ : ObWorks) (other_ : ObWorks) : W (Bool) :=
  W.ite (!true) (W.ret false) (W.bind (m_likeness self_) fun t1 => W.bind (m_likeness other_) fun t5 => W.guard (okD t1 ∧ okD t5) (W.ret (eqD t1 t5)))
def m_Works___len__ (self_ : ObWorks) : W (Int) :=
  W.ret ((self_.past).length : Int)
def m_law_reel_L1 (cell_ : Int) (stir_ : Int) : W (Int) :=
  W.guard (CMulW stir_ stir_) (W.guard (CPow (2 : Int) (64 : Int)) (W.guard (CPow (2 : Int) (63 : Int)) (W.guard (CMulW ((2 : Int) ^ ((64 : Int)).toNat) ((2 : Int) ^ ((63 : Int)).toNat)) (W.guard (0 < ((((2 : Int) ^ ((64 : Int)).toNat) * ((2 : Int) ^ ((63 : Int)).toNat)) - (1 : Int))) (W.bind (W.ret ((((stir_ * stir_) + (cell_ % (1000000000000000003 : Int))) + (11 : Int)) % ((((2 : Int) ^ ((64 : Int)).toNat) * ((2 : Int) ^ ((63 : Int)).toNat)) - (1 : Int)))) fun stir_ => W.ret (stir_))))))
def m_law_reel_R1 (script_ : (List Int)) (stir_ : Int) : W ((H4 (List Int) (List Int) Int Int)) :=
  W.bind (compG (Z.cut script_ none (some (63 : Int))) (fun cell_ => W.guard (CPow (10 : Int) (18 : Int)) (W.ret (decide (cell_ ≥ ((10 : Int) ^ ((18 : Int)).toNat))))) (fun cell_ => W.guard (CPow (10 : Int) (18 : Int)) (W.ret (cell_ - ((10 : Int) ^ ((18 : Int)).toNat))))) fun t16 => W.bind (W.ret t16) fun great_ => W.bind (compG (Z.cut script_ none (some (63 : Int))) (fun cell_ => W.ret true) (fun cell_ => W.ret (cell_ % (1000003 : Int)))) fun t30 => W.guard ((t30).length + (([(41 : Int)] : (List Int))).length ≤ sizeLine) (W.ret (⟨great_, (t30 ++ ([(41 : Int)] : (List Int))), (0 : Int), stir_⟩ : (H4 (List Int) (List Int) Int Int)))
def m_law_reel (script_ : (List Int)) : W ((H4 (List Int) (List Int) Int Int)) :=
  W.guard (CPow (3 : Int) (60 : Int)) (W.bind (W.ret ((3 : Int) ^ ((60 : Int)).toNat)) fun stir_ => W.bind (W.forL (Z.cut script_ none (some (63 : Int))) stir_ (fun a s => m_law_reel_L1 a s)) (fun s => m_law_reel_R1 script_ s))
def m_law_draw (reel_ : (H4 (List Int) (List Int) Int Int)) (many_ : Int) : W (Int × (H4 (List Int) (List Int) Int Int)) :=
  W.guard (okD reel_.a ∧ okD ([] : (List Int))) (W.ite (!eqD reel_.a ([] : (List Int))) (W.bind (W.opt (atI reel_.a (0 : Int))) fun t7 => W.bind (W.ret t7) fun rest_ => W.guard (CDivW rest_ many_) (W.guard (repG ([(rest_ / many_)] : (List Int)) (if (decide (rest_ ≥ many_)) then (1 : Int) else 0)) (W.guard (((repL ([(rest_ / many_)] : (List Int)) (if (decide (rest_ ≥ many_)) then (1 : Int) else 0))).length + ((Z.cut reel_.a (some (1 : Int)) none)).length ≤ sizeLine) (W.bind (W.ret ({ reel_ with a := ((repL ([(rest_ / many_)] : (List Int)) (if (decide (rest_ ≥ many_)) then (1 : Int) else 0)) ++ (Z.cut reel_.a (some (1 : Int)) none)) } : (H4 (List Int) (List Int) Int Int))) fun reel_ => W.guard (0 < many_) (W.ret ((rest_ % many_), reel_)))))) (W.bind (W.ret ({ reel_ with c := (reel_.c + (1 : Int)) } : (H4 (List Int) (List Int) Int Int))) fun reel_ => W.guard (0 < ((reel_.b).length : Int)) (W.bind (W.opt (atI reel_.b (reel_.c % ((reel_.b).length : Int)))) fun t32 => W.bind (W.ret t32) fun told_ => W.guard (CMulW reel_.d reel_.d) (W.guard (CMulW (told_ + (7 : Int)) (69621 : Int)) (W.guard (CMulW reel_.c (1000003 : Int)) (W.bind (W.ret (((reel_.d * reel_.d) + ((told_ + (7 : Int)) * (69621 : Int))) + (reel_.c * (1000003 : Int)))) fun stir_ => W.guard (CPow (2 : Int) (64 : Int)) (W.guard (CPow (2 : Int) (63 : Int)) (W.guard (CMulW ((2 : Int) ^ ((64 : Int)).toNat) ((2 : Int) ^ ((63 : Int)).toNat)) (W.guard (0 < ((((2 : Int) ^ ((64 : Int)).toNat) * ((2 : Int) ^ ((63 : Int)).toNat)) - (1 : Int))) (W.bind (W.ret ({ reel_ with d := (stir_ % ((((2 : Int) ^ ((64 : Int)).toNat) * ((2 : Int) ^ ((63 : Int)).toNat)) - (1 : Int))) } : (H4 (List Int) (List Int) Int Int))) fun reel_ => W.guard (CPow (2 : Int) (40 : Int)) (W.guard (CDivW reel_.d ((2 : Int) ^ ((40 : Int)).toNat)) (W.guard (0 < many_) (W.ret (((reel_.d / ((2 : Int) ^ ((40 : Int)).toNat)) % many_), reel_))))))))))))))
def m_law_row (reel_ : (H4 (List Int) (List Int) Int Int)) (at_ : Int) (size_ : Int) (many_ : Int) : W (PyData × (H4 (List Int) (List Int) Int Int)) :=
  W.bind2 (m_law_draw reel_ (4 : Int)) fun t1 reel_ => W.bind (W.ret t1) fun kind_ => W.bind2 (m_law_draw reel_ (8 : Int)) fun t5 reel_ => W.bind (chr ("abcdefgh" : Str) t5) fun t9 => W.bind (W.ret t9) fun box_ => W.bind2 (m_law_draw reel_ (size_ + (1 : Int))) fun t10 reel_ => W.bind (W.ret (at_ + t10)) fun to_ => W.ite (decide (kind_ > (1 : Int))) (W.bind2 (m_law_draw reel_ many_) fun t14 reel_ => W.ret ((toPy (⟨("swap" : Str), box_, t14, (("box" : Str), box_)⟩ : (P4 Str Str Int (Str × Str)))), reel_)) (W.ite (decide (kind_ = (1 : Int))) (W.bind2 (m_law_draw reel_ (2 : Int)) fun t23 reel_ => W.bind (chr ("=<" : Str) t23) fun t27 => W.bind2 (m_law_draw reel_ (8 : Int)) fun t30 reel_ => W.bind (chr ("abcdefgh" : Str) t30) fun t34 => W.ret ((toPy (⟨("unless" : Str), t27, (("box" : Str), box_), (("box" : Str), t34), to_⟩ : (P5 Str Str (Str × Str) (Str × Str) Int))), reel_)) (W.ret ((toPy (("go" : Str), to_)), reel_)))
def m_law_hand_L1 (k_ : Int) (reel_ : (H4 (List Int) (List Int) Int Int)) (rows_ : (List PyData)) (boxes_ : (List Int)) : W ((H4 (List Int) (List Int) Int Int) × (List PyData) × (List Int)) :=
  W.bind2 (m_law_draw reel_ (8 : Int)) fun t18 reel_ => W.bind (W.ret t18) fun box_ => W.bind2 (m_law_draw reel_ (1000 : Int)) fun t22 reel_ => W.bind (sti boxes_ box_ t22) fun boxes_ => W.bind (chr ("abcdefgh" : Str) box_) fun t26 => W.bind (W.opt (atI boxes_ box_)) fun t27 => W.bind (apd rows_ (toPy (⟨("let" : Str), t26, (("number" : Str), t27)⟩ : (P3 Str Str (Str × Int))))) fun rows_ => W.ret ((reel_, rows_, boxes_))
def m_law_hand_R1 (many_ : Int) (reel_ : (H4 (List Int) (List Int) Int Int)) (rows_ : (List PyData)) (boxes_ : (List Int)) : W (((List PyData) × (List Int)) × (H4 (List Int) (List Int) Int Int)) :=
  W.bind2 (m_law_draw reel_ (9 : Int)) fun t35 reel_ => W.bind (W.ret t35) fun size_ => W.guard (rngOk 0 size_) (W.bind (compSG (rng 0 size_) reel_ (fun a s => (fun k_ => (fun reel_ => W.bind2 (m_law_row reel_ ((rows_).length : Int) size_ many_) fun t41 reel_ => W.ret (some t41, reel_)) s) a)) fun q => (fun t48 reel_ => W.guard ((rows_).length + (t48).length ≤ sizeLine) (W.ret (((rows_ ++ t48), boxes_), reel_))) q.1 q.2)
def m_law_hand (reel_ : (H4 (List Int) (List Int) Int Int)) (many_ : Int) : W (((List PyData) × (List Int)) × (H4 (List Int) (List Int) Int Int)) :=
  W.bind (W.ret ([] : (List PyData))) fun rows_ => W.guard (repG ([(0 : Int)] : (List Int)) (8 : Int)) (W.bind (W.ret (repL ([(0 : Int)] : (List Int)) (8 : Int))) fun boxes_ => W.bind2 (m_law_draw reel_ (9 : Int)) fun t13 reel_ => W.guard (rngOk 0 t13) (W.bind (W.forL (rng 0 t13) (reel_, rows_, boxes_) (fun a s => m_law_hand_L1 a s.1 s.2.1 s.2.2)) (fun s => m_law_hand_R1 many_ s.1 s.2.1 s.2.2)))
def m_law_boxes (one_ : ObWorks) (many_ : Int) : W ((List (List Int))) :=
  W.guard (rngOk 0 many_) (W.bind (compG (rng 0 many_) (fun k_ => W.ret true) (fun k_ => W.bind (m_Works_boxes one_ k_) fun t3 => W.ret t3)) fun t14 => W.ret t14)
def m_law_sorted (numbers_ : (List Int)) (boxes_ : (List (List Int))) : W ((List Int)) :=
  W.bind (compG boxes_ (fun row_ => W.ret true) (fun row_ => W.ret row_)) fun t12 => W.guard (0 < (t12).length ∧ ((t12).flatten).length ≤ 100000) (W.guard ((numbers_).length + ((t12).flatten).length ≤ sizeLine) (W.ret (srtI (numbers_ ++ (t12).flatten))))
def m_law_right (told_ : (P4 Str Int (Option Int) (Option Int))) (before_ : ((List Int) × (List (List Int)))) (after_ : ((List Int) × (List (List Int)))) (k_ : Int) : W (Bool) :=
  W.bind (W.ret told_) fun u => (fun kind_ cell_ had_ put_ => W.bind (W.ret before_.1) fun due_ => W.bind (W.ite (!decide (kind_ = ("swap" : Str))) (W.ret true) (W.bind (W.ite (!(decide ((0 : Int) ≤ cell_) && (decide (cell_ < ((due_).length : Int))))) (W.ret true) (W.bind (W.opt (atI due_ cell_)) fun t8 => W.guard (okD t8 ∧ okD had_) (W.ret (!eqD t8 had_)))) (fun t10 => W.ret t10))) (fun t14 => W.ite t14 (W.ret false) (W.bind (W.opt put_) fun t18 => W.bind (sti due_ cell_ t18) fun due_ => W.guard (okD after_.1 ∧ okD due_) (W.bind (W.ite (!eqD after_.1 due_) (W.ret true) (W.guard (okD (Z.cut after_.2 none (some k_)) ∧ okD (Z.cut before_.2 none (some k_))) (W.bind (W.ite (!eqD (Z.cut after_.2 none (some k_)) (Z.cut before_.2 none (some k_))) (W.ret true) (W.guard (okD (Z.cut after_.2 (some (k_ + (1 : Int))) none) ∧ okD (Z.cut before_.2 (some (k_ + (1 : Int))) none)) (W.ret (!eqD (Z.cut after_.2 (some (k_ + (1 : Int))) none) (Z.cut before_.2 (some (k_ + (1 : Int))) none))))) (fun t41 => W.ret t41)))) (fun t45 => W.ite t45 (W.ret false) (W.guard (rngOk 0 (8 : Int)) (W.bind (compG (rng 0 (8 : Int)) (fun at_ => W.bind (W.opt (atI before_.2 k_)) fun t52 => W.bind (W.opt (atI t52 at_)) fun t54 => W.bind (W.opt (atI after_.2 k_)) fun t57 => W.bind (W.opt (atI t57 at_)) fun t59 => W.ret (!decide (t54 = t59))) (fun at_ => W.ret at_)) fun t64 => W.bind (W.ret t64) fun unlike_ => W.guard (okD unlike_ ∧ okD ([] : (List Int))) (W.ite (eqD unlike_ ([] : (List Int))) (W.guard (okD had_ ∧ okD put_) (W.bind (W.ite (eqD had_ put_) (W.bind (W.opt (atI before_.2 k_)) fun t74 => W.guard (okD put_ ∧ okD t74) (W.ret (inD put_ t74))) (W.ret false)) (fun t76 => W.ret t76))) (W.bind (W.ite (decide (((unlike_).length : Int) = (1 : Int))) (W.bind (W.opt (atI before_.2 k_)) fun t81 => W.bind (W.opt (atI unlike_ (0 : Int))) fun t83 => W.bind (W.opt (atI t81 t83)) fun t85 => W.guard (okD t85 ∧ okD put_) (W.bind (W.ite (eqD t85 put_) (W.bind (W.opt (atI after_.2 k_)) fun t88 => W.bind (W.opt (atI unlike_ (0 : Int))) fun t90 => W.bind (W.opt (atI t88 t90)) fun t92 => W.guard (okD t92 ∧ okD had_) (W.ret (eqD t92 had_))) (W.ret false)) (fun t94 => W.ret t94))) (W.ret false)) (fun t98 => W.ret t98)))))))))) u.a u.b u.c u.d
def m_law_L1 (hands_ : (List ((List PyData) × (List Int)))) (due_ : (List Int)) (turn_ : Int) (reel_ : (H4 (List Int) (List Int) Int Int)) (one_ : ObWorks) (before_ : ((List Int) × (List (List Int)))) : W (Ctl Bool ((H4 (List Int) (List Int) Int Int) × ObWorks × ((List Int) × (List (List Int))))) :=
  W.guard (rngOk 0 ((hands_).length : Int)) (W.bind (compG (rng 0 ((hands_).length : Int)) (fun k_ => W.bind (m_Works_how one_ k_) fun t94 => W.ret (decide (t94 = ("waits" : Str)))) (fun k_ => W.ret k_)) fun t103 => W.bind (W.ret t103) fun waiting_ => W.guard (okD waiting_ ∧ okD ([] : (List Int))) (W.ite (eqD waiting_ ([] : (List Int))) (W.ret (Ctl.rt true)) (W.bind2 (m_law_draw reel_ ((waiting_).length : Int)) fun t112 reel_ => W.bind (W.opt (atI waiting_ t112)) fun t116 => W.bind (W.ret t116) fun k_ => W.bind2 (m_Works_turn one_ k_) fun t118 one_ => W.bind (W.ret t118) fun told_ => W.bind (m_Works_cells one_) fun t122 => W.bind (m_law_boxes one_ ((hands_).length : Int)) fun t128 => W.bind (W.ret (t122, t128)) fun after_ => W.bind (m_law_right told_ before_ after_ k_) fun t136 => W.bind (W.ite (!t136) (W.ret true) (W.bind (m_law_sorted after_.1 after_.2) fun t142 => W.guard (okD t142 ∧ okD due_) (W.ret (!eqD t142 due_)))) (fun t146 => W.ite t146 (W.ret (Ctl.rt false)) (W.bind (W.ret after_) fun before_ => W.ret (Ctl.nx (reel_, one_, before_)))))))
def m_law (script_ : (List Int)) : W (Bool) :=
  W.bind (m_law_reel script_) fun t1 => W.bind (W.ret t1) fun reel_ => W.bind2 (m_law_draw reel_ (20 : Int)) fun t5 reel_ => W.bind (W.ret ((1 : Int) + t5)) fun many_ => W.bind2 (m_law_draw reel_ (8 : Int)) fun t9 reel_ => W.guard (rngOk 0 ((1 : Int) + t9)) (W.bind (compSG (rng 0 ((1 : Int) + t9)) reel_ (fun a s => (fun k_ => (fun reel_ => W.bind2 (m_law_hand reel_ many_) fun t15 reel_ => W.ret (some t15, reel_)) s) a)) fun q => (fun t22 reel_ => W.bind (W.ret t22) fun hands_ => W.guard (rngOk 0 many_) (W.bind (compSG (rng 0 many_) reel_ (fun a s => (fun k_ => (fun reel_ => W.bind2 (m_law_draw reel_ (1000 : Int)) fun t29 reel_ => W.ret (some t29, reel_)) s) a)) fun q => (fun t36 reel_ => W.bind (W.ret t36) fun numbers_ => W.bind (compG hands_ (fun a => (fun rows_ boxes_ => W.ret true) a.1 a.2) (fun a => (fun rows_ boxes_ => W.ret rows_) a.1 a.2)) fun t46 => W.bind (m_Works___init__ (many_, t46) (some numbers_)) fun t55 => W.bind (W.ret t55) fun one_ => W.bind (m_Works_cells one_) fun t59 => W.bind (m_law_boxes one_ ((hands_).length : Int)) fun t65 => W.bind (W.ret (t59, t65)) fun before_ => W.bind (compG hands_ (fun a => (fun rows_ boxes_ => W.ret true) a.1 a.2) (fun a => (fun rows_ boxes_ => W.ret boxes_) a.1 a.2)) fun t78 => W.guard (okD before_ ∧ okD (numbers_, t78)) (W.ite (!eqD before_ (numbers_, t78)) (W.ret false) (W.bind (m_law_sorted before_.1 before_.2) fun t87 => W.bind (W.ret t87) fun due_ => W.guard (rngOk 0 ((20 : Int) + (if (63 : Int) < ((script_).length : Int) then (63 : Int) else ((script_).length : Int)))) (W.bind (W.forC (rng 0 ((20 : Int) + (if (63 : Int) < ((script_).length : Int) then (63 : Int) else ((script_).length : Int)))) (reel_, one_, before_) (fun a s => m_law_L1 hands_ due_ a s.1 s.2.1 s.2.2)) fun c => W.after c (fun s => (fun reel_ one_ before_ => W.ret true) s.1 s.2.1 s.2.2))))) q.1 q.2)) q.1 q.2)
end M

/-! # general ways -/
namespace M
open PySem L2 Z
theorem rng_mem {a b x : Int} : x ∈ rng a b ↔ a ≤ x ∧ x < b := by
  unfold rng
  rw [List.mem_map]
  constructor
  · rintro ⟨k, hk, rfl⟩
    rw [List.mem_range] at hk
    omega
  · rintro ⟨h1, h2⟩
    exact ⟨(x - a).toNat, by rw [List.mem_range]; omega, by omega⟩
theorem rng_pw (a b : Int) : (rng a b).Pairwise (· < ·) := by
  unfold rng
  rw [List.pairwise_map]
  exact List.pairwise_lt_range.imp fun h => by omega
theorem take_snocN {α : Type} {xs : List α} {i : Nat} {x : α} (h : xs[i]? = some x) : xs.take (i + 1) = xs.take i ++ [x] := by
  rw [List.take_add_one, h]
  rfl
theorem at_head {α : Type} {x : α} {l : List α} : atI (x :: l) (0 : Int) = some x := atI_nat (j := 0) rfl
theorem at_last {α : Type} {x : α} {l : List α} : atI (l ++ [x]) (-(1 : Int)) = some x := atI_last l x
/-- a loop that is left at last -/
theorem while_wp {S ρ : Type} (Inv : S → Prop) (μ : S → Nat) {s : S} {f : S → W (Ctl ρ S)} {Φ : Ctl ρ S → Prop} (h0 : Inv s)
    (step : ∀ s, Inv s → (f s).run (CtlP (fun s' => Inv s' ∧ μ s' < μ s) (fun s' => Φ (.nx s')) (fun r => Φ (.rt r)))) : (W.whileL s f).run Φ := by
  have key : ∀ m s, Inv s → μ s < m → (W.whileN m s f).run Φ := by
    intro m
    induction m with
    | zero => intro s _ h; omega
    | succ m ih =>
      intro s hs hm
      show (W.bind (f s) _).run Φ
      rw [run_bind]
      refine run_mono (step s hs) fun c hc => ?_
      cases c with
      | nx s' => exact ih s' hc.1 (by have := hc.2; omega)
      | bk s' => exact hc
      | rt r => exact hc
  exact ⟨μ s + 1, key _ s h0 (Nat.lt_succ_self _)⟩
/-- a loop that is left where a test holds -/
theorem forC_any {α ρ : Type} {xs : List α} {f : α → Unit → W (Ctl ρ Unit)} (t : α → Bool) (r : ρ) {Φ : Ctl ρ Unit → Prop} (hf : ∀ x ∈ xs, ∀ Ψ : Ctl ρ Unit → Prop, Ψ (if t x = true then .rt r else .nx ()) → (f x ()).run Ψ)
    (k : Φ (if xs.any t = true then .rt r else .nx ())) : (W.forC xs () f).run Φ := by
  induction xs with
  | nil => exact k
  | cons x xs ih =>
    show (W.bind (f x ()) _).run Φ
    rw [run_bind]
    refine hf x List.mem_cons_self _ ?_
    rw [List.any_cons] at k
    by_cases c : t x = true
    · rw [if_pos c]
      rw [c, Bool.true_or, if_pos rfl] at k
      exact k
    · rw [if_neg c]
      rw [Bool.not_eq_true] at c
      rw [c, Bool.false_or] at k
      exact ih (fun y hy => hf y (List.mem_cons_of_mem _ hy)) k
theorem popI_wp {α : Type} {xs : List α} {i : Nat} {Φ : α × List α → Prop} (h : i < xs.length) (hl : xs.length ≤ 100000) (k : Φ (xs[i], xs.eraseIdx i)) : (popI xs (i : Int)).run Φ :=
  ⟨⟨by omega, by omega⟩, i, by rw [ixN_nat' (by omega) (by omega), Int.toNat_natCast], xs[i], List.getElem?_eq_getElem h, k⟩
theorem mnD_cases (xs : List Int) (d : Int) : (xs = [] ∧ mnD xs d = d) ∨ (mnD xs d ∈ xs ∧ ∀ y ∈ xs, mnD xs d ≤ y) := by
  cases xs with
  | nil => exact .inl ⟨rfl, rfl⟩
  | cons x xs => exact .inr (mnF xs x)
theorem mxD_cases (xs : List Int) (d : Int) : (xs = [] ∧ mxD xs d = d) ∨ (mxD xs d ∈ xs ∧ ∀ y ∈ xs, y ≤ mxD xs d) := by
  cases xs with
  | nil => exact .inl ⟨rfl, rfl⟩
  | cons x xs => exact .inr (mxF xs x)
/-- a comprehension that carries a state -/
theorem compSG_wp {α β S : Type} {xs : List α} {s : S} {f : α → S → W (Option β × S)} (Inv : Nat → S → List β → Prop) {Φ : List β × S → Prop} (hl : xs.length ≤ sizeLine) (h0 : Inv 0 s [])
    (step : ∀ i x s acc, xs[i]? = some x → Inv i s acc → (f x s).run fun r => match r.1 with | none => Inv (i + 1) r.2 acc | some y => Inv (i + 1) r.2 (acc ++ [y])) (k : ∀ s acc, Inv xs.length s acc → Φ (acc, s)) : (compSG xs s f).run Φ := by
  refine ⟨hl, ?_⟩
  have key : ∀ (ys : List α) (i : Nat) (s : S) (acc : List β), (∀ j x, ys[j]? = some x → xs[i + j]? = some x) → i + ys.length = xs.length → Inv i s acc → (compS ys acc s f).run Φ := by
    intro ys
    induction ys with
    | nil =>
      intro i s acc _ e h
      exact k s acc (by rw [← e]; exact h)
    | cons y ys ih =>
      intro i s acc hx e h
      show (W.bind (f y s) _).run Φ
      rw [run_bind]
      refine run_mono (step i y s acc (hx 0 y rfl) h) fun r hr => ?_
      obtain ⟨o, s'⟩ := r
      have hx' : ∀ j x, ys[j]? = some x → xs[i + 1 + j]? = some x := fun j x q => by rw [Nat.add_right_comm]; exact hx (j + 1) x q
      have e' : i + 1 + ys.length = xs.length := by rw [← e]; simp; omega
      cases o with
      | none => exact ih (i + 1) s' acc hx' e' hr
      | some z => exact ih (i + 1) s' (acc ++ [z]) hx' e' hr
  exact key xs 0 s [] (fun j x q => by rw [Nat.zero_add]; exact q) (by omega) h0
end M

/-! # works: two answers that are the same are alike; the reel -/
namespace M
open PySem L2 Z
abbrev WReel := H4 (List Int) (List Int) Int Int
/-! ### data: what simp should know -/
theorem pt {xs : List PyData} {i : Int} : pyIx (.tuple xs) i = atI xs i := rfl
theorem at0 {α : Type} {a : α} {l : List α} : atI (a :: l) (0 : Int) = some a := atI_nat (j := 0) rfl
theorem at1 {α : Type} {a b : α} {l : List α} : atI (a :: b :: l) (1 : Int) = some b := atI_nat (j := 1) rfl
theorem at2 {α : Type} {a b c : α} {l : List α} : atI (a :: b :: c :: l) (2 : Int) = some c := atI_nat (j := 2) rfl
theorem at3 {α : Type} {a b c d : α} {l : List α} : atI (a :: b :: c :: d :: l) (3 : Int) = some d := atI_nat (j := 3) rfl
theorem at4 {α : Type} {a b c d e : α} {l : List α} : atI (a :: b :: c :: d :: e :: l) (4 : Int) = some e := atI_nat (j := 4) rfl
theorem atL3 {α : Type} {a b c : α} : atI [a, b, c] (-(1 : Int)) = some c := atI_last [a, b] c
theorem atL4 {α : Type} {a b c d : α} : atI [a, b, c, d] (-(1 : Int)) = some d := atI_last [a, b, c] d
theorem eqS {a b : Str} : eqD (PyData.str a) b = decide (a = b) := eqD_dec (α := Str)
theorem eqS' {a b : Str} : eqD (PyData.str a) (PyData.str b) = decide (a = b) := eqD_dec (α := Str)
theorem eqI' {a b : Int} : eqD (PyData.int a) (PyData.int b) = decide (a = b) := eqD_dec (α := Int)
theorem okW {a : Str} (h : PyData.strOk a = true) : okD a := okD_of (α := Str) h
theorem okId {a : Int} : okD (PyData.int a) = True := eq_true (okD_pl (α := Int) a)
theorem neW : ¬ (("number" : Str) = "box") ∧ ¬ (("number" : Str) = "plus") ∧ ¬ (("number" : Str) = "minus") ∧ ¬ (("box" : Str) = "number") ∧ ¬ (("box" : Str) = "plus") ∧ ¬ (("box" : Str) = "minus") ∧ ¬ (("plus" : Str) = "number") ∧ ¬ (("plus" : Str) = "box") ∧ ¬ (("plus" : Str) = "minus") ∧ ¬ (("minus" : Str) = "number") ∧ ¬ (("minus" : Str) = "box") ∧ ¬ (("minus" : Str) = "plus") ∧ ¬ (("load" : Str) = "store") ∧ ¬ (("load" : Str) = "swap") ∧ ¬ (("load" : Str) = "let") ∧ ¬ (("load" : Str) = "say") ∧ ¬ (("load" : Str) = "go") ∧ ¬ (("load" : Str) = "unless") ∧ ¬ (("store" : Str) = "load") ∧ ¬ (("store" : Str) = "swap") ∧ ¬ (("store" : Str) = "let") ∧ ¬ (("store" : Str) = "say") ∧ ¬ (("store" : Str) = "go") ∧ ¬ (("store" : Str) = "unless") ∧ ¬ (("swap" : Str) = "load") ∧ ¬ (("swap" : Str) = "store") ∧ ¬ (("swap" : Str) = "let") ∧ ¬ (("swap" : Str) = "say") ∧ ¬ (("swap" : Str) = "go") ∧ ¬ (("swap" : Str) = "unless") ∧ ¬ (("let" : Str) = "load") ∧ ¬ (("let" : Str) = "store") ∧ ¬ (("let" : Str) = "swap") ∧ ¬ (("let" : Str) = "say") ∧ ¬ (("let" : Str) = "go") ∧ ¬ (("let" : Str) = "unless") ∧ ¬ (("say" : Str) = "load") ∧ ¬ (("say" : Str) = "store") ∧ ¬ (("say" : Str) = "swap") ∧ ¬ (("say" : Str) = "let") ∧ ¬ (("say" : Str) = "go") ∧ ¬ (("say" : Str) = "unless") ∧ ¬ (("go" : Str) = "load") ∧ ¬ (("go" : Str) = "store") ∧ ¬ (("go" : Str) = "swap") ∧ ¬ (("go" : Str) = "let") ∧ ¬ (("go" : Str) = "say") ∧ ¬ (("go" : Str) = "unless") ∧ ¬ (("unless" : Str) = "load") ∧ ¬ (("unless" : Str) = "store") ∧ ¬ (("unless" : Str) = "swap") ∧ ¬ (("unless" : Str) = "let") ∧ ¬ (("unless" : Str) = "say") ∧ ¬ (("unless" : Str) = "go") ∧ ¬ (("=" : Str) = "<") ∧ ¬ (("<" : Str) = "=") ∧ ¬ (("waits" : Str) = "ends") ∧ ¬ (("waits" : Str) = "lost") ∧ ¬ (("waits" : Str) = "") ∧ ¬ (("ends" : Str) = "waits") ∧ ¬ (("ends" : Str) = "lost") ∧ ¬ (("ends" : Str) = "") ∧ ¬ (("lost" : Str) = "waits") ∧ ¬ (("lost" : Str) = "ends") ∧ ¬ (("lost" : Str) = "") ∧ ¬ (("" : Str) = "waits") ∧ ¬ (("" : Str) = "ends") ∧ ¬ (("" : Str) = "lost") := by
  refine ⟨?_, ?_, ?_, ?_, ?_, ?_, ?_, ?_, ?_, ?_, ?_, ?_, ?_, ?_, ?_, ?_, ?_, ?_, ?_, ?_, ?_, ?_, ?_, ?_, ?_, ?_, ?_, ?_, ?_, ?_, ?_, ?_, ?_, ?_, ?_, ?_, ?_, ?_, ?_, ?_, ?_, ?_, ?_, ?_, ?_, ?_, ?_, ?_, ?_, ?_, ?_, ?_, ?_, ?_, ?_, ?_, ?_, ?_, ?_, ?_, ?_, ?_, ?_, ?_, ?_, ?_, ?_, ?_⟩ <;> decide +kernel
theorem frSd {a : Str} : (Fr.fr (PyData.str a) : Option Str) = some a := rfl
theorem frId {a : Int} : (Fr.fr (PyData.int a) : Option Int) = some a := rfl
theorem okA : okD (PyData.str "number") = True ∧ okD ("number" : Str) = True ∧ okD (PyData.str "box") = True ∧ okD ("box" : Str) = True ∧ okD (PyData.str "plus") = True ∧ okD ("plus" : Str) = True ∧ okD (PyData.str "minus") = True ∧ okD ("minus" : Str) = True ∧ okD (PyData.str "load") = True ∧ okD ("load" : Str) = True ∧ okD (PyData.str "store") = True ∧ okD ("store" : Str) = True ∧ okD (PyData.str "swap") = True ∧ okD ("swap" : Str) = True ∧ okD (PyData.str "let") = True ∧ okD ("let" : Str) = True ∧ okD (PyData.str "say") = True ∧ okD ("say" : Str) = True ∧ okD (PyData.str "go") = True ∧ okD ("go" : Str) = True ∧ okD (PyData.str "unless") = True ∧ okD ("unless" : Str) = True ∧ okD (PyData.str "waits") = True ∧ okD ("waits" : Str) = True ∧ okD (PyData.str "ends") = True ∧ okD ("ends" : Str) = True ∧ okD (PyData.str "lost") = True ∧ okD ("lost" : Str) = True ∧ okD (PyData.str "=") = True ∧ okD ("=" : Str) = True ∧ okD (PyData.str "<") = True ∧ okD ("<" : Str) = True := by
  refine ⟨?_, ?_, ?_, ?_, ?_, ?_, ?_, ?_, ?_, ?_, ?_, ?_, ?_, ?_, ?_, ?_, ?_, ?_, ?_, ?_, ?_, ?_, ?_, ?_, ?_, ?_, ?_, ?_, ?_, ?_, ?_, ?_⟩ <;> exact eq_true (okW (by decide +kernel))
/-! ### alike -/
theorem okP_n : okP .none := fun _ h => by cases h
theorem okP_s {x : Str} : okP (.str x) := fun _ h => by cases h
theorem okP_i {x : Int} : okP (.int x) := fun _ h => by cases h
theorem okP_l {x : List PyData} : okP (.list x) := fun _ h => by cases h
theorem okP_t {x : List PyData} : okP (.tuple x) := fun _ h => by cases h
theorem okPn : okP .none = True := eq_true okP_n
theorem okPs {x : Str} : okP (.str x) = True := eq_true okP_s
theorem okPi {x : Int} : okP (.int x) = True := eq_true okP_i
theorem okPl {x : List PyData} : okP (.list x) = True := eq_true okP_l
theorem okPt {x : List PyData} : okP (.tuple x) = True := eq_true okP_t
theorem isP_il {x : Int} : isP (.int x) "list" = false := by show (kitB "int" "list").getD false = false; decide +kernel
theorem isP_it {x : Int} : isP (.int x) "tuple" = false := by show (kitB "int" "tuple").getD false = false; decide +kernel
theorem isP_is {x : Int} : isP (.int x) "str" = false := by show (kitB "int" "str").getD false = false; decide +kernel
theorem isP_ii {x : Int} : isP (.int x) "int" = true := by show (kitB "int" "int").getD false = true; decide +kernel
theorem isP_ib {x : Int} : isP (.int x) "bool" = false := by show (kitB "int" "bool").getD false = false; decide +kernel
theorem isP_sl {x : Str} : isP (.str x) "list" = false := by show (kitB "str" "list").getD false = false; decide +kernel
theorem isP_st {x : Str} : isP (.str x) "tuple" = false := by show (kitB "str" "tuple").getD false = false; decide +kernel
theorem isP_ss {x : Str} : isP (.str x) "str" = true := by show (kitB "str" "str").getD false = true; decide +kernel
theorem isP_sb {x : Str} : isP (.str x) "bool" = false := by show (kitB "str" "bool").getD false = false; decide +kernel
theorem isP_nl : isP .none "list" = false := by show (kitB "NoneType" "list").getD false = false; decide +kernel
theorem isP_nt : isP .none "tuple" = false := by show (kitB "NoneType" "tuple").getD false = false; decide +kernel
theorem isP_ll {x : List PyData} : isP (.list x) "list" = true := by show (kitB "list" "list").getD false = true; decide +kernel
theorem isP_lt {x : List PyData} : isP (.list x) "tuple" = false := by show (kitB "list" "tuple").getD false = false; decide +kernel
theorem isP_tl {x : List PyData} : isP (.tuple x) "list" = false := by show (kitB "tuple" "list").getD false = false; decide +kernel
theorem isP_tt {x : List PyData} : isP (.tuple x) "tuple" = true := by show (kitB "tuple" "tuple").getD false = true; decide +kernel
/-- data that is compared in n steps -/
inductive Gd : Nat → PyData → Prop
  | int {n : Nat} (x : Int) : Gd (n + 1) (.int x)
  | str {n : Nat} (x : Str) (h : PyData.strOk x = true) : Gd (n + 1) (.str x)
  | non {n : Nat} : Gd (n + 1) .none
  | lst {n : Nat} {xs : List PyData} (l : xs.length ≤ 100000) (h : ∀ x ∈ xs, Gd n x) : Gd (n + 1) (.list xs)
  | tup {n : Nat} {xs : List PyData} (l : xs.length ≤ 100000) (h : ∀ x ∈ xs, Gd n x) : Gd (n + 1) (.tuple xs)
theorem Gd.up {n : Nat} {d : PyData} (h : Gd n d) : Gd (n + 1) d := by
  induction h with
  | int x => exact .int x
  | str x h => exact .str x h
  | non => exact .non
  | lst l h ih => exact .lst l ih
  | tup l h ih => exact .tup l ih
theorem zip_self {α : Type} : ∀ {xs : List α} {p : α × α}, p ∈ xs.zip xs → p.1 = p.2 ∧ p.1 ∈ xs
  | [], p, h => by cases h
  | x :: xs, p, h => by
    rw [List.zip_cons_cons] at h
    rcases List.mem_cons.mp h with rfl | h
    · exact ⟨rfl, List.mem_cons_self⟩
    · exact ⟨(zip_self h).1, List.mem_cons_of_mem _ (zip_self h).2⟩
theorem all_true {n : Nat} : (List.map (fun _ => true) (List.range n)).all id = true := by simp
theorem gd_ints {xs : List Int} (h : xs.length ≤ 100000) : Gd 6 (toPy xs) := by
  refine .lst (by rw [List.length_map]; exact h) fun x hx => ?_
  obtain ⟨y, _, rfl⟩ := List.mem_map.mp hx
  exact .int y
/-! ### the reel: N draws at most are behind it -/
structure RlOk (N : Nat) (r : WReel) : Prop where
  a : r.a.length ≤ 63
  b0 : 0 < r.b.length
  b1 : r.b.length ≤ 64
  b : ∀ x ∈ r.b, 0 ≤ x ∧ x < 1000003
  c0 : 0 ≤ r.c
  c1 : r.c ≤ N
  d0 : 0 ≤ r.d
  d1 : r.d < 2 ^ 127
theorem RlOk.mo {N N' : Nat} {r : WReel} (h : RlOk N r) (e : N ≤ N') : RlOk N' r := { h with c1 := Int.le_trans h.c1 (by omega) }
theorem cpw {i j : Int} (h : 0 ≤ j ∧ j ≤ 1000000 ∧ i.natAbs < 2 ^ 64 := by decide) : CPow i j := h
theorem great_eq : ((2 : Int) ^ ((64 : Int)).toNat) * ((2 : Int) ^ ((63 : Int)).toNat) - 1 = 170141183460469231731687303715884105727 := by decide +kernel
theorem p40_eq : (2 : Int) ^ ((40 : Int)).toNat = 1099511627776 := by decide +kernel
theorem p64m : CMulW ((2 : Int) ^ ((64 : Int)).toNat) ((2 : Int) ^ ((63 : Int)).toNat) := wide_mul (a := 65) (b := 64) (by decide +kernel) (by decide +kernel) (by decide) (by decide) (by decide)
theorem draw_wp {N : Nat} {r : WReel} {many : Int} {Φ : Int × WReel → Prop} (hr : RlOk N r) (hN : N < 2 ^ 60) (h0 : 0 < many) (hm : many < 2 ^ 60) (k : ∀ x r', 0 ≤ x → x < many → RlOk (N + 1) r' → Φ (x, r')) : (m_law_draw r many).run Φ := by
  obtain ⟨a, b, c, d⟩ := r
  obtain ⟨ha, hb0, hb1, hb, hc0, hc1, hd0, hd1⟩ := hr
  dsimp only at ha hb0 hb1 hb hc0 hc1 hd0 hd1
  have lo : ∀ x : Int, 0 ≤ x % many := fun x => Int.emod_nonneg _ (by omega)
  have hi : ∀ x : Int, x % many < many := fun x => Int.emod_lt_of_pos _ h0
  unfold m_law_draw
  simp only [run_bind, run_rt, run_guard, run_if, run_opt, decide_eq_true_eq]
  refine ⟨⟨okD_pl _, okD_pl _⟩, ?_⟩
  rw [eqD_dec]
  split
  · rename_i hne
    match a, hne, ha with
    | x :: as, _, ha =>
      refine ⟨x, at0, wide_div (b := 60) h0 (by omega) (by decide) (by decide), ?_, ?_, h0, ?_⟩
      · refine ⟨?_, ?_, small ?_⟩ <;> split <;> simp
      · refine small ?_
        rw [cut_from (by decide)]
        have e1 : (repL [x / many] (if x ≥ many then (1 : Int) else 0)).length ≤ 1 := by split <;> simp [repL]
        have e2 : (List.drop (1 : Int).toNat (x :: as)).length = as.length := by simp
        rw [e2]
        simp only [List.length_cons] at ha
        omega
      · refine k _ _ (lo _) (hi _) ⟨?_, hb0, hb1, hb, hc0, by dsimp only; omega, hd0, hd1⟩
        dsimp only
        rw [cut_from (by decide), List.length_append]
        have e1 : (repL [x / many] (if x ≥ many then (1 : Int) else 0)).length ≤ 1 := by split <;> simp [repL]
        have e2 : (List.drop (1 : Int).toNat (x :: as)).length = as.length := by simp
        rw [e2]
        simp only [List.length_cons] at ha
        omega
    | [], hne, _ => simp at hne
  · have o1 := Int.emod_nonneg (c + 1) (b := (b.length : Int)) (by omega)
    have o2 := Int.emod_lt_of_pos (c + 1) (b := (b.length : Int)) (by omega)
    obtain ⟨t, ht, et⟩ := atI_some (xs := b) o1 o2
    obtain ⟨t0, t1⟩ := hb t ht
    rw [great_eq, p40_eq]
    have q1 := Int.emod_nonneg (d * d + (t + 7) * 69621 + (c + 1) * 1000003) (b := 170141183460469231731687303715884105727) (by decide)
    have q2 := Int.emod_lt_of_pos (d * d + (t + 7) * 69621 + (c + 1) * 1000003) (b := 170141183460469231731687303715884105727) (by decide)
    refine ⟨by omega, t, et, wide_mul (a := 127) (b := 127) (by omega) (by omega) (by decide) (by decide) (by decide), wide_mul (a := 32) (b := 20) (by omega) (by decide) (by decide) (by decide) (by decide), wide_mul (a := 70) (b := 20) (by omega) (by decide) (by decide) (by decide) (by decide), cpw, cpw, p64m, by decide, cpw, wide_div (b := 60) (by decide) (by decide) (by decide) (by decide), h0, ?_⟩
    refine k _ _ (lo _) (hi _) ⟨ha, hb0, hb1, hb, by dsimp only; omega, by dsimp only; omega, q1, by dsimp only; omega⟩
theorem drawB_wp {N : Nat} {r : WReel} {many : Int} {Φ : Int × WReel → Prop} (hr : RlOk N r) (hN : N < 2 ^ 60) (h0 : 0 < many) (hm : many < 2 ^ 100) (k : ∀ x r', RlOk (N + 1) r' → Φ (x, r')) : (m_law_draw r many).run Φ := by
  obtain ⟨a, b, c, d⟩ := r
  obtain ⟨ha, hb0, hb1, hb, hc0, hc1, hd0, hd1⟩ := hr
  dsimp only at ha hb0 hb1 hb hc0 hc1 hd0 hd1
  have lo : ∀ x : Int, 0 ≤ x % many := fun x => Int.emod_nonneg _ (by omega)
  have hi : ∀ x : Int, x % many < many := fun x => Int.emod_lt_of_pos _ h0
  unfold m_law_draw
  simp only [run_bind, run_rt, run_guard, run_if, run_opt, decide_eq_true_eq]
  refine ⟨⟨okD_pl _, okD_pl _⟩, ?_⟩
  rw [eqD_dec]
  split
  · rename_i hne
    match a, hne, ha with
    | x :: as, _, ha =>
      refine ⟨x, at0, wide_div (b := 100) h0 (by omega) (by decide) (by decide), ?_, ?_, h0, ?_⟩
      · refine ⟨?_, ?_, small ?_⟩ <;> split <;> simp
      · refine small ?_
        rw [cut_from (by decide)]
        have e1 : (repL [x / many] (if x ≥ many then (1 : Int) else 0)).length ≤ 1 := by split <;> simp [repL]
        have e2 : (List.drop (1 : Int).toNat (x :: as)).length = as.length := by simp
        rw [e2]
        simp only [List.length_cons] at ha
        omega
      · refine k _ _ ⟨?_, hb0, hb1, hb, hc0, by dsimp only; omega, hd0, hd1⟩
        dsimp only
        rw [cut_from (by decide), List.length_append]
        have e1 : (repL [x / many] (if x ≥ many then (1 : Int) else 0)).length ≤ 1 := by split <;> simp [repL]
        have e2 : (List.drop (1 : Int).toNat (x :: as)).length = as.length := by simp
        rw [e2]
        simp only [List.length_cons] at ha
        omega
    | [], hne, _ => simp at hne
  · have o1 := Int.emod_nonneg (c + 1) (b := (b.length : Int)) (by omega)
    have o2 := Int.emod_lt_of_pos (c + 1) (b := (b.length : Int)) (by omega)
    obtain ⟨t, ht, et⟩ := atI_some (xs := b) o1 o2
    obtain ⟨t0, t1⟩ := hb t ht
    rw [great_eq, p40_eq]
    have q1 := Int.emod_nonneg (d * d + (t + 7) * 69621 + (c + 1) * 1000003) (b := 170141183460469231731687303715884105727) (by decide)
    have q2 := Int.emod_lt_of_pos (d * d + (t + 7) * 69621 + (c + 1) * 1000003) (b := 170141183460469231731687303715884105727) (by decide)
    refine ⟨by omega, t, et, wide_mul (a := 127) (b := 127) (by omega) (by omega) (by decide) (by decide) (by decide), wide_mul (a := 32) (b := 20) (by omega) (by decide) (by decide) (by decide) (by decide), wide_mul (a := 70) (b := 20) (by omega) (by decide) (by decide) (by decide) (by decide), cpw, cpw, p64m, by decide, cpw, wide_div (b := 100) (by decide) (by decide) (by decide) (by decide), h0, ?_⟩
    refine k _ _ ⟨ha, hb0, hb1, hb, by dsimp only; omega, by dsimp only; omega, q1, by dsimp only; omega⟩
theorem reel_wp {ns : List Int} {Φ : WReel → Prop} (k : ∀ r, RlOk 0 r → Φ r) : (m_law_reel ns).run Φ := by
  have hl : (Z.cut ns none (some (63 : Int))).length ≤ 63 := by rw [cut_to (by decide)]; simp; omega
  unfold m_law_reel
  simp only [run_bind, run_rt, run_guard]
  refine ⟨cpw, ?_⟩
  refine forL_wp (fun _ (s : Int) => 0 ≤ s ∧ s < 2 ^ 127) ⟨by decide +kernel, by decide +kernel⟩ ?_ ?_
  · rintro i x s _ ⟨s0, s1⟩
    unfold m_law_reel_L1
    simp only [run_bind, run_rt, run_guard]
    rw [great_eq]
    have q1 := Int.emod_nonneg (s * s + x % 1000000000000000003 + 11) (b := 170141183460469231731687303715884105727) (by decide)
    have q2 := Int.emod_lt_of_pos (s * s + x % 1000000000000000003 + 11) (b := 170141183460469231731687303715884105727) (by decide)
    exact ⟨wide_mul (a := 127) (b := 127) (by omega) (by omega) (by decide) (by decide) (by decide), cpw, cpw, p64m, by decide, q1, by omega⟩
  · rintro s ⟨s0, s1⟩
    unfold m_law_reel_R1
    simp only [run_bind, run_rt, run_guard]
    refine compG_wp (fun x => decide (x ≥ (10 : Int) ^ ((18 : Int)).toNat)) (fun x => x - (10 : Int) ^ ((18 : Int)).toNat) (small (by omega)) (fun x _ Ψ q => ⟨cpw, q⟩) (fun x _ _ Ψ q => ⟨cpw, q⟩) ?_
    refine compG_wp (fun x => true) (fun x => x % 1000003) (small (by omega)) (fun x _ Ψ q => q) (fun x _ _ Ψ q => q) ?_
    rw [List.filter_eq_self.mpr (fun _ _ => rfl)]
    refine ⟨small (by rw [List.length_map, List.length_cons, List.length_nil]; omega), k _ ⟨?_, ?_, ?_, ?_, Int.le_refl _, Int.le_refl _, s0, s1⟩⟩
    · dsimp only; rw [List.length_map]; exact Nat.le_trans (List.length_filter_le _ _) hl
    · dsimp only; rw [List.length_append, List.length_cons]; omega
    · dsimp only; rw [List.length_append, List.length_map, List.length_cons, List.length_nil]; omega
    · dsimp only
      intro x hx
      rcases List.mem_append.mp hx with h | h
      · obtain ⟨y, _, rfl⟩ := List.mem_map.mp h
        exact ⟨Int.emod_nonneg _ (by decide), Int.emod_lt_of_pos _ (by decide)⟩
      · rw [List.mem_singleton.mp h]; exact ⟨by decide, by decide⟩
end M

/-! # works: rows, values, a hand led on -/
namespace M
open PySem L2 Z
/-! ### boxes -/
def ltr (b : Nat) : Str := ⟨#[(("abcdefgh" : Str).cps.toList.getD b 0)]⟩
theorem chr_wp {i : Int} {Φ : Str → Prop} (h0 : 0 ≤ i) (h8 : i < 8) (k : Φ (ltr i.toNat)) : (chr ("abcdefgh" : Str) i).run Φ := by
  unfold chr
  simp only [run_guard, run_bind, run_opt, run_rt]
  refine ⟨by decide +kernel, _, atI_get' (a := (("abcdefgh" : Str).cps.toList.getD i.toNat 0)) h0 ?_, k⟩
  have hl : ("abcdefgh" : Str).cps.toList.length = 8 := by decide +kernel
  rw [List.getD_eq_getElem?_getD, List.getElem?_eq_getElem (by omega)]
  rfl
theorem ltr_ix : ∀ b : Fin 8, sIdx ("abcdefgh" : Str) (ltr b.val) = some (b.val : Int) := by decide +kernel
theorem ix_ltr {b : Nat} (h : b < 8) : sIdx ("abcdefgh" : Str) (ltr b) = some (b : Int) := ltr_ix ⟨b, h⟩
/-! ### what a row says -/
inductive Pln where
  | num (n : Int)
  | box (b : Nat)
def Pln.enc : Pln → PyData
  | .num n => .tuple [.str "number", .int n]
  | .box b => .tuple [.str "box", .str (ltr b)]
def Pln.ok : Pln → Prop
  | .num n => 0 ≤ n ∧ n < 1000
  | .box b => b < 8
def Pln.val (h : List Int) : Pln → Int
  | .num n => n
  | .box b => h.getD b 0
inductive Wth where
  | one (p : Pln)
  | plus (p q : Pln)
  | minus (p q : Pln)
def Wth.enc : Wth → PyData
  | .one p => p.enc
  | .plus p q => .tuple [.str "plus", p.enc, q.enc]
  | .minus p q => .tuple [.str "minus", p.enc, q.enc]
def Wth.ok : Wth → Prop
  | .one p => p.ok
  | .plus p q => p.ok ∧ q.ok
  | .minus p q => p.ok ∧ q.ok
def Wth.val (h : List Int) : Wth → Int
  | .one p => p.val h
  | .plus p q => (p.val h + q.val h) % 1000
  | .minus p q => (p.val h - q.val h) % 1000
theorem atN {l : List Int} {b : Nat} (h : b < l.length) : atI l (b : Int) = some (l.getD b 0) := by
  refine atI_nat ?_
  rw [List.getD_eq_getElem?_getD, List.getElem?_eq_getElem h]
  rfl
section
variable {h : List Int} {p : Pln} {w : Wth} {n : Nat} {Φ : Int → Prop}
theorem pnow_wp (hl : h.length = 8) (ok : p.ok) (k : Φ (p.val h)) : (m_worth_now_R (n + 1) h p.enc).run Φ := by
  cases p with
  | num x =>
    unfold m_worth_now_R Pln.enc
    simp only [run_bind, run_bind2, run_rt, run_guard, run_if, run_opt, pt, at0, at1, at2, at3, at4, atL3, atL4, eqS, frSd, frId, neW, okA, decide_true, decide_false, decide_eq_true_eq, Bool.false_eq_true, Bool.true_eq_false, if_true, if_false, Bool.not_true, Bool.not_false, Option.some.injEq, exists_eq_left', true_and, and_true, and_self]
    exact k
  | box b =>
    have ok : b < 8 := ok
    unfold m_worth_now_R Pln.enc
    simp only [run_bind, run_bind2, run_rt, run_guard, run_if, run_opt, pt, at0, at1, at2, at3, at4, atL3, atL4, eqS, frSd, frId, neW, okA, decide_true, decide_false, decide_eq_true_eq, Bool.false_eq_true, Bool.true_eq_false, if_true, if_false, Bool.not_true, Bool.not_false, Option.some.injEq, exists_eq_left', true_and, and_true, and_self, ix_ltr ok, atN (show b < h.length by omega)]
    exact k
theorem now_wp (hl : h.length = 8) (ok : w.ok) (k : Φ (w.val h)) : (m_worth_now h w.enc).run Φ := by
  unfold m_worth_now
  cases w with
  | one p => exact pnow_wp hl ok k
  | plus p q =>
    unfold m_worth_now_R Wth.enc
    simp only [run_bind, run_bind2, run_rt, run_guard, run_if, run_opt, pt, at0, at1, at2, at3, at4, atL3, atL4, eqS, frSd, frId, neW, okA, decide_true, decide_false, decide_eq_true_eq, Bool.false_eq_true, Bool.true_eq_false, if_true, if_false, Bool.not_true, Bool.not_false, Option.some.injEq, exists_eq_left', true_and, and_true, and_self]
    refine pnow_wp hl ok.1 (pnow_wp hl ok.2 ⟨by decide, k⟩)
  | minus p q =>
    unfold m_worth_now_R Wth.enc
    simp only [run_bind, run_bind2, run_rt, run_guard, run_if, run_opt, pt, at0, at1, at2, at3, at4, atL3, atL4, eqS, frSd, frId, neW, okA, decide_true, decide_false, decide_eq_true_eq, Bool.false_eq_true, Bool.true_eq_false, if_true, if_false, Bool.not_true, Bool.not_false, Option.some.injEq, exists_eq_left', true_and, and_true, and_self]
    refine pnow_wp hl ok.1 (pnow_wp hl ok.2 ⟨by decide, k⟩)
end
/-! ### rows -/
inductive Rw where
  | load (b : Nat) (c : Nat)
  | store (c : Nat) (w : Wth)
  | swap (b : Nat) (c : Nat) (w : Wth)
  | lett (b : Nat) (w : Wth)
  | say (w : Wth)
  | go (t : Nat)
  | unless (lt : Bool) (w w' : Wth) (t : Nat)
def sgn (lt : Bool) : Str := if lt then "<" else "="
def Rw.enc : Rw → PyData
  | .load b c => .tuple [.str "load", .str (ltr b), .int c]
  | .store c w => .tuple [.str "store", .int c, w.enc]
  | .swap b c w => .tuple [.str "swap", .str (ltr b), .int c, w.enc]
  | .lett b w => .tuple [.str "let", .str (ltr b), w.enc]
  | .say w => .tuple [.str "say", w.enc]
  | .go t => .tuple [.str "go", .int t]
  | .unless lt w w' t => .tuple [.str "unless", .str (sgn lt), w.enc, w'.enc, .int t]
/-- for m cells and n rows -/
def Rw.ok (m n : Nat) : Rw → Prop
  | .load b c => b < 8 ∧ c < m
  | .store c w => c < m ∧ w.ok
  | .swap b c w => b < 8 ∧ c < m ∧ w.ok
  | .lett b w => b < 8 ∧ w.ok
  | .say w => w.ok
  | .go t => t ≤ n
  | .unless _ w w' t => w.ok ∧ w'.ok ∧ t ≤ n
def Rw.own : Rw → Bool
  | .load _ _ => false
  | .store _ _ => false
  | .swap _ _ _ => false
  | _ => true
/-- what a hand holds as it goes -/
structure HS where
  pos : Nat
  held : List Int
  said : List Int
def stp (s : HS) : Rw → HS
  | .lett b w => { s with pos := s.pos + 1, held := s.held.set b (w.val s.held) }
  | .say w => { s with pos := s.pos + 1, said := s.said ++ [w.val s.held] }
  | .go t => { s with pos := t }
  | .unless lt w w' t => if (if lt then decide (w.val s.held < w'.val s.held) else decide (w.val s.held = w'.val s.held)) then { s with pos := s.pos + 1 } else { s with pos := t }
  | _ => s
def led : Nat → List Rw → HS → HS × Str
  | 0, rows, s => match rows[s.pos]? with
    | none => (s, "ends")
    | some r => if r.own then (s, "lost") else (s, "waits")
  | n + 1, rows, s => match rows[s.pos]? with
    | none => (s, "ends")
    | some r => if r.own then led n rows (stp s r) else (s, "waits")
def tHand (rows : List Rw) (s : HS) (way : Str) : ObHand := ⟨rows.map Rw.enc, s.pos, s.held, s.said, way⟩
structure HOk (n B : Nat) (s : HS) : Prop where
  pos : s.pos ≤ n
  held : s.held.length = 8
  said : s.said.length ≤ B
theorem HOk.mo {n B B' : Nat} {s : HS} (h : HOk n B s) (e : B ≤ B') : HOk n B' s := ⟨h.pos, h.held, Nat.le_trans h.said e⟩
theorem stp_ok {m n B : Nat} {s : HS} {r : Rw} (h : HOk n B s) (hp : s.pos < n) (ok : r.ok m n) : HOk n (B + 1) (stp s r) := by
  obtain ⟨h1, h2, h3⟩ := h
  cases r with
  | lett b w => exact ⟨hp, by simp [stp, h2], Nat.le_succ_of_le h3⟩
  | say w => exact ⟨hp, h2, by simp [stp]; exact h3⟩
  | go t => exact ⟨ok, h2, Nat.le_succ_of_le h3⟩
  | «unless» lt w w' t =>
    have q : ∀ c : Bool, HOk n (B + 1) (if c = true then { s with pos := s.pos + 1 } else { s with pos := t }) := fun c => by
      cases c
      · exact ⟨ok.2.2, h2, Nat.le_succ_of_le h3⟩
      · exact ⟨hp, h2, Nat.le_succ_of_le h3⟩
    exact q _
  | load b c => exact ⟨h1, h2, Nat.le_succ_of_le h3⟩
  | store c w => exact ⟨h1, h2, Nat.le_succ_of_le h3⟩
  | swap b c w => exact ⟨h1, h2, Nat.le_succ_of_le h3⟩
theorem at_rows {rows : List Rw} {i : Nat} {r : Rw} (h : rows[i]? = some r) : atI (rows.map Rw.enc) (i : Int) = some r.enc := atI_nat (by rw [List.getElem?_map, h]; rfl)
section
variable {m n B : Nat} {s : HS} {r : Rw} {rows : List Rw} {way : Str} {k : Int}
theorem put_in_wp {b : Nat} {x : Int} {Φ : Unit × ObHand → Prop} (hl : s.held.length = 8) (hb : b < 8) (q : Φ ((), tHand rows { s with held := s.held.set b x } way)) : (m_put_in (tHand rows s way) (ltr b) x).run Φ := by
  unfold m_put_in tHand
  simp only [run_bind, run_bind2, run_rt, run_guard, run_if, run_opt, pt, at0, at1, at2, at3, at4, atL3, atL4, eqS, frSd, frId, neW, okA, decide_true, decide_false, decide_eq_true_eq, Bool.false_eq_true, Bool.true_eq_false, if_true, if_false, Bool.not_true, Bool.not_false, Option.some.injEq, exists_eq_left', true_and, and_true, and_self, ix_ltr hb]
  refine sti_wp (by omega) (by omega) ?_
  rw [Int.toNat_natCast]
  exact q
theorem own_wp {Φ : Unit × ObHand → Prop} (h : HOk n B s) (hB : B ≤ 90000) (ok : r.ok m n) (hr : r.own = true) (q : Φ ((), tHand rows (stp s r) way)) : (m_do_own (tHand rows s way) r.enc).run Φ := by
  unfold m_do_own tHand
  cases r with
  | load b c => cases hr
  | store c w => cases hr
  | swap b c w => cases hr
  | lett b w =>
    unfold Rw.enc
    simp only [run_bind, run_bind2, run_rt, run_guard, run_if, run_opt, pt, at0, at1, at2, at3, at4, atL3, atL4, eqS, frSd, frId, neW, okA, decide_true, decide_false, decide_eq_true_eq, Bool.false_eq_true, Bool.true_eq_false, if_true, if_false, Bool.not_true, Bool.not_false, Option.some.injEq, exists_eq_left', true_and, and_true, and_self]
    refine now_wp h.held ok.2 ?_
    exact put_in_wp (rows := rows) (s := { s with pos := s.pos + 1 }) h.held ok.1 q
  | say w =>
    unfold Rw.enc
    simp only [run_bind, run_bind2, run_rt, run_guard, run_if, run_opt, pt, at0, at1, at2, at3, at4, atL3, atL4, eqS, frSd, frId, neW, okA, decide_true, decide_false, decide_eq_true_eq, Bool.false_eq_true, Bool.true_eq_false, if_true, if_false, Bool.not_true, Bool.not_false, Option.some.injEq, exists_eq_left', true_and, and_true, and_self]
    refine now_wp h.held ok ?_
    exact apd_wp (by have := h.said; omega) q
  | go t =>
    unfold Rw.enc
    simp only [run_bind, run_bind2, run_rt, run_guard, run_if, run_opt, pt, at0, at1, at2, at3, at4, atL3, atL4, eqS, frSd, frId, neW, okA, decide_true, decide_false, decide_eq_true_eq, Bool.false_eq_true, Bool.true_eq_false, if_true, if_false, Bool.not_true, Bool.not_false, Option.some.injEq, exists_eq_left', true_and, and_true, and_self]
    exact q
  | «unless» lt w w' t =>
    unfold Rw.enc m_is_so
    simp only [run_bind, run_bind2, run_rt, run_guard, run_if, run_opt, pt, at0, at1, at2, at3, at4, atL3, atL4, eqS, frSd, frId, neW, okA, decide_true, decide_false, decide_eq_true_eq, Bool.false_eq_true, Bool.true_eq_false, if_true, if_false, Bool.not_true, Bool.not_false, Option.some.injEq, exists_eq_left', true_and, and_true, and_self]
    unfold stp at q
    cases lt with
    | false =>
      rw [if_pos (show sgn false = "=" from rfl)]
      refine now_wp h.held ok.1 (now_wp h.held ok.2.1 ?_)
      by_cases c : w.val s.held = w'.val s.held
      · rw [decide_eq_true c]
        simp only [c, Bool.false_eq_true, if_false, decide_true, if_true] at q
        exact q
      · rw [decide_eq_false c]
        simp only [c, Bool.false_eq_true, if_false, decide_false] at q
        exact q
    | true =>
      rw [if_neg (show ¬ sgn true = "=" by decide +kernel)]
      refine now_wp h.held ok.1 (now_wp h.held ok.2.1 ?_)
      by_cases c : w.val s.held < w'.val s.held
      · rw [decide_eq_true c]
        simp only [c, if_true, decide_true] at q
        exact q
      · rw [decide_eq_false c]
        simp only [c, if_true, decide_false, Bool.false_eq_true, if_false] at q
        exact q
/-- a row's first word, and whether it is one's own -/
def Rw.word : Rw → Str
  | .load _ _ => "load"
  | .store _ _ => "store"
  | .swap _ _ _ => "swap"
  | .lett _ _ => "let"
  | .say _ => "say"
  | .go _ => "go"
  | .unless _ _ _ _ => "unless"
theorem word_ix (r : Rw) : pyIx r.enc (0 : Int) = some (.str r.word) := by cases r <;> exact at0
theorem word_own (r : Rw) : (r.word ∈ ([("let" : Str), ("say" : Str), ("go" : Str), ("unless" : Str)] : List Str)) = (r.own = true) := by
  cases r <;> simp only [Rw.word, Rw.own, List.mem_cons, List.not_mem_nil, neW, or_false, or_true, true_or, false_or, Bool.false_eq_true]
theorem word_touch (r : Rw) : (r.word ∈ ([("load" : Str), ("store" : Str), ("swap" : Str)] : List Str)) = (r.own = false) := by
  cases r <;> simp only [Rw.word, Rw.own, List.mem_cons, List.not_mem_nil, neW, or_false, or_true, true_or, false_or, Bool.true_eq_false]
def Rows (m n : Nat) (rows : List Rw) : Prop := rows.length = n ∧ ∀ r ∈ rows, r.ok m n
theorem rng_cons {a b : Int} (h : a < b) : rng a b = a :: rng (a + 1) b := by
  apply List.ext_getElem
  · rw [List.length_cons, rng_len, rng_len]; omega
  · intro i h1 h2
    cases i with
    | zero => simp [rng]
    | succ i => simp [rng]; omega
theorem rng_nil {a b : Int} (h : b ≤ a) : rng a b = [] := by
  apply List.length_eq_zero_iff.mp
  rw [rng_len]; omega
theorem lead_wp {Φ : Unit × ObHand → Prop} (h : HOk n B s) (hB : B + 60 ≤ 90000) (hr : Rows m n rows) (q : Φ ((), tHand rows (led 60 rows s).1 (led 60 rows s).2)) : (m_lead_on (tHand rows s way)).run Φ := by
  unfold m_lead_on
  simp only [run_bind, run_bind2, run_rt, run_guard, run_if, run_opt, pt, at0, at1, at2, at3, at4, atL3, atL4, eqS, frSd, frId, neW, okA, decide_true, decide_false, decide_eq_true_eq, Bool.false_eq_true, Bool.true_eq_false, if_true, if_false, Bool.not_true, Bool.not_false, Option.some.injEq, exists_eq_left', true_and, and_true, and_self]
  refine ⟨⟨by decide, by decide, by decide, by decide⟩, ?_⟩
  have key : ∀ (f : Nat) (s : HS) (B : Nat), HOk n B s → B + f ≤ 90000 → f ≤ 60 → Φ ((), tHand rows (led f rows s).1 (led f rows s).2) → (W.forC (rng (60 - (f : Int)) (60 + 1)) (tHand rows s way) (fun a s => m_lead_on_L1 a s)).run fun c => (W.after c (fun s => m_lead_on_R1 s)).run Φ := by
    intro f
    induction f with
    | zero =>
      intro s B h hB _ q
      rw [rng_cons (by omega), rng_nil (by omega)]
      unfold W.forC m_lead_on_L1 tHand
      simp only [run_bind, run_bind2, run_rt, run_guard, run_if, run_opt, pt, at0, at1, at2, at3, at4, atL3, atL4, eqS, frSd, frId, neW, okA, decide_true, decide_false, decide_eq_true_eq, Bool.false_eq_true, Bool.true_eq_false, if_true, if_false, Bool.not_true, Bool.not_false, Option.some.injEq, exists_eq_left', true_and, and_true, and_self, List.length_map]
      unfold led at q
      by_cases c : s.pos = rows.length
      · rw [if_pos (by rw [c])]
        rw [List.getElem?_eq_none (by omega)] at q
        exact q
      · rw [if_neg (by omega)]
        have hp : s.pos < rows.length := by have := h.pos; have := hr.1; omega
        have e := List.getElem?_eq_getElem hp
        generalize rows[s.pos] = r at e
        rw [e] at q
        simp only [run_bind, run_bind2, run_rt, run_guard, run_if, run_opt, pt, at0, at1, at2, at3, at4, atL3, atL4, eqS, frSd, frId, neW, okA, decide_true, decide_false, decide_eq_true_eq, Bool.false_eq_true, Bool.true_eq_false, if_true, if_false, Bool.not_true, Bool.not_false, Option.some.injEq, exists_eq_left', true_and, and_true, and_self, at_rows e, word_ix, word_touch]
        by_cases d : r.own = true
        · simp only [d, if_true] at q
          rw [if_neg (by rw [d]; decide), if_neg (by decide)]
          exact q
        · simp only [d, if_false, Bool.false_eq_true] at q
          rw [if_pos (by simpa using d)]
          exact q
    | succ f ih =>
      intro s B h hB hf q
      rw [rng_cons (by omega)]
      unfold W.forC
      unfold m_lead_on_L1
      unfold tHand
      simp only [run_bind, run_bind2, run_rt, run_guard, run_if, run_opt, pt, at0, at1, at2, at3, at4, atL3, atL4, eqS, frSd, frId, neW, okA, decide_true, decide_false, decide_eq_true_eq, Bool.false_eq_true, Bool.true_eq_false, if_true, if_false, Bool.not_true, Bool.not_false, Option.some.injEq, exists_eq_left', true_and, and_true, and_self, List.length_map]
      unfold led at q
      by_cases c : s.pos = rows.length
      · rw [if_pos (by rw [c])]
        rw [List.getElem?_eq_none (by omega)] at q
        exact q
      · rw [if_neg (by omega)]
        have hp : s.pos < rows.length := by have := h.pos; have := hr.1; omega
        have e := List.getElem?_eq_getElem hp
        have ok := hr.2 _ (List.getElem_mem hp)
        generalize rows[s.pos] = r at e ok
        rw [e] at q
        simp only [run_bind, run_bind2, run_rt, run_guard, run_if, run_opt, pt, at0, at1, at2, at3, at4, atL3, atL4, eqS, frSd, frId, neW, okA, decide_true, decide_false, decide_eq_true_eq, Bool.false_eq_true, Bool.true_eq_false, if_true, if_false, Bool.not_true, Bool.not_false, Option.some.injEq, exists_eq_left', true_and, and_true, and_self, at_rows e, word_ix, word_touch]
        by_cases d : r.own = true
        · simp only [d, if_true] at q
          rw [if_neg (by rw [d]; decide), if_pos (by omega)]
          refine own_wp (rows := rows) (s := s) (way := way) h (by omega) ok d ?_
          have := ih (stp s r) (B + 1) (stp_ok h (by have := hr.1; omega) ok) (by omega) (by omega) q
          rw [show (60 : Int) - ((f + 1 : Nat) : Int) + 1 = 60 - (f : Int) by omega]
          exact this
        · simp only [d, if_false, Bool.false_eq_true] at q
          rw [if_pos (by simpa using d)]
          exact q
  have := key 60 s B h hB (Nat.le_refl _) q
  exact this
theorem led_ok : ∀ {f : Nat} {s : HS} {B : Nat}, HOk n B s → Rows m n rows → HOk n (B + f) (led f rows s).1 := by
  intro f
  induction f with
  | zero =>
    intro s B h hr
    unfold led
    split
    · exact h
    · split
      · exact h
      · exact h
  | succ f ih =>
    intro s B h hr
    unfold led
    split
    · exact h.mo (by omega)
    · rename_i r e
      split
      · have hp := (List.getElem?_eq_some_iff.mp e).1
        have := ih (stp_ok h (by have := hr.1; omega) (hr.2 _ (List.mem_of_getElem? e))) hr
        rw [Nat.add_assoc, Nat.add_comm 1 f] at this
        exact this
      · exact h.mo (by omega)
/-- a hand that waits, waits at a touch -/
theorem led_waits : ∀ {f : Nat} {s : HS}, (led f rows s).2 = "waits" → ∃ r, rows[(led f rows s).1.pos]? = some r ∧ r.own = false := by
  intro f
  induction f with
  | zero =>
    intro s e
    unfold led at e ⊢
    cases q : rows[s.pos]? with
    | none => simp only [q, neW] at e
    | some r =>
      cases d : r.own with
      | true => simp only [q, d, neW, if_true] at e
      | false => exact ⟨r, by simp only [d, q, Bool.false_eq_true, if_false], d⟩
  | succ f ih =>
    intro s e
    unfold led at e ⊢
    cases q : rows[s.pos]? with
    | none => simp only [q, neW] at e
    | some r =>
      cases d : r.own with
      | true =>
        simp only [q, d, if_true] at e ⊢
        exact ih e
      | false => exact ⟨r, by simp only [d, q, Bool.false_eq_true, if_false], d⟩
theorem led_word : ∀ {f : Nat} {s : HS}, (led f rows s).2 = "waits" ∨ (led f rows s).2 = "ends" ∨ (led f rows s).2 = "lost" := by
  intro f
  induction f with
  | zero =>
    intro s
    unfold led
    split
    · exact .inr (.inl rfl)
    · split
      · exact .inr (.inr rfl)
      · exact .inl rfl
  | succ f ih =>
    intro s
    unfold led
    split
    · exact .inr (.inl rfl)
    · split
      · exact ih
      · exact .inl rfl
end
end M

/-! # works: touches, turns, the beginning -/
namespace M
open PySem L2 Z
abbrev Tld := P4 Str Int (Option Int) (Option Int)
def tch (cells : List Int) (s : HS) : Rw → List Int × HS × Tld
  | .load b c => (cells, { s with pos := s.pos + 1, held := s.held.set b (cells.getD c 0) }, ⟨"load", c, some (cells.getD c 0), none⟩)
  | .store c w => (cells.set c (w.val s.held), { s with pos := s.pos + 1 }, ⟨"store", c, none, some (w.val s.held)⟩)
  | .swap b c w => (cells.set c (w.val s.held), { s with pos := s.pos + 1, held := s.held.set b (cells.getD c 0) }, ⟨"swap", c, some (cells.getD c 0), some (w.val s.held)⟩)
  | _ => (cells, s, ⟨"", 0, none, none⟩)
structure HT where
  rows : List Rw
  s : HS
  way : Str
structure PS where
  cells : List Int
  hands : List HT
  past : List Int
def HT.tH (h : HT) : ObHand := tHand h.rows h.s h.way
def PS.tW (p : PS) : ObWorks := ⟨p.cells, p.hands.map HT.tH, p.past⟩
def PS.prog (p : PS) (m : Int) : Int × List (List PyData) := (m, p.hands.map fun h => h.rows.map Rw.enc)
def PS.next (p : PS) (k : Nat) (h : HT) (r : Rw) : PS :=
  { cells := (tch p.cells h.s r).1, hands := p.hands.set k ⟨h.rows, (led 60 h.rows (tch p.cells h.s r).2.1).1, (led 60 h.rows (tch p.cells h.s r).2.1).2⟩, past := p.past ++ [(k : Int)] }
structure HTOk (m B : Nat) (h : HT) : Prop where
  hs : HOk h.rows.length B h.s
  rows : Rows m h.rows.length h.rows
  wt : h.way = "waits" → ∃ r, h.rows[h.s.pos]? = some r ∧ r.own = false
  wd : h.way = "waits" ∨ h.way = "ends" ∨ h.way = "lost"
structure PSOk (m B : Nat) (p : PS) : Prop where
  cells : p.cells.length = m
  hands : ∀ h ∈ p.hands, HTOk m B h
  few : p.hands.length ≤ 8
  past : ∀ k ∈ p.past, 0 ≤ k ∧ k < p.hands.length
theorem HTOk.mo {m B B' : Nat} {h : HT} (o : HTOk m B h) (e : B ≤ B') : HTOk m B' h := { o with hs := o.hs.mo e }
theorem PSOk.mo {m B B' : Nat} {p : PS} (o : PSOk m B p) (e : B ≤ B') : PSOk m B' p := { o with hands := fun h hh => (o.hands h hh).mo e }
theorem tch_ok {m n B : Nat} {cells : List Int} {s : HS} {r : Rw} (h : HOk n B s) (hp : s.pos < n) : HOk n B (tch cells s r).2.1 := by
  obtain ⟨h1, h2, h3⟩ := h
  cases r with
  | load b c => exact ⟨hp, by simp [tch, h2], h3⟩
  | store c w => exact ⟨hp, h2, h3⟩
  | swap b c w => exact ⟨hp, by simp [tch, h2], h3⟩
  | _ => exact ⟨h1, h2, h3⟩
theorem tch_cells {cells : List Int} {s : HS} {r : Rw} : (tch cells s r).1.length = cells.length := by
  cases r <;> simp [tch]
theorem PSOk.next {m B : Nat} {p : PS} {k : Nat} {h : HT} {r : Rw} (o : PSOk m B p) (hk : p.hands[k]? = some h) (hr : h.rows[h.s.pos]? = some r) : PSOk m (B + 60) (p.next k h r) := by
  have oh := o.hands h (List.mem_of_getElem? hk)
  have hl := (List.getElem?_eq_some_iff.mp hk).1
  refine ⟨by unfold PS.next; dsimp only; rw [tch_cells]; exact o.cells, ?_, by unfold PS.next; dsimp only; rw [List.length_set]; exact o.few, ?_⟩
  · intro x hx
    rcases List.mem_or_eq_of_mem_set hx with hx | rfl
    · exact (o.hands x hx).mo (by omega)
    · exact ⟨led_ok (tch_ok (m := m) oh.hs (List.getElem?_eq_some_iff.mp hr).1) oh.rows, oh.rows, fun e => led_waits e, led_word⟩
  · intro x hx
    unfold PS.next
    dsimp only
    rw [List.length_set]
    rcases List.mem_append.mp hx with hx | hx
    · exact o.past x hx
    · rw [List.mem_singleton.mp hx]; exact ⟨by omega, by omega⟩
theorem cnt_snoc {past : List Int} {j k : Int} : cntZ (past ++ [k]) j = cntZ past j + (if k = j then 1 else 0) := by
  unfold cntZ
  rw [List.count_append, List.count_singleton]
  by_cases c : k = j
  · simp [c]
  · simp [c]
theorem setI_nat {α : Type} {xs : List α} {k : Nat} {x : α} (h : k < xs.length) : setI xs (k : Int) x = xs.set k x := by
  unfold setI
  rw [ixN_nat' (by omega) (by omega)]
  simp
section
variable {m B : Nat} {p : PS} {k : Nat} {h : HT} {r : Rw} {way : Str}
theorem getD_set {l : List Int} {c : Nat} {x : Int} (h : c < l.length) : (l.set c x).getD c 0 = x := by
  rw [List.getD_eq_getElem?_getD, List.getElem?_set]
  simp [h]
theorem touch_wp {s : HS} {rows : List Rw} {cells : List Int} {n : Nat} {Φ : Tld × ObHand × List Int → Prop} (hs : HOk n B s) (hr : rows[s.pos]? = some r) (ow : r.own = false) (ok : r.ok m n) (hc : cells.length = m) (q : Φ ((tch cells s r).2.2, tHand rows (tch cells s r).2.1 way, (tch cells s r).1)) : (m_do_touch (tHand rows s way) cells).run Φ := by
  unfold m_do_touch
  unfold tHand
  simp only [run_bind, run_bind2, run_rt, run_guard, run_if, run_opt, pt, at0, at1, at2, at3, at4, atL3, atL4, eqS, frSd, frId, neW, okA, decide_true, decide_false, decide_eq_true_eq, Bool.false_eq_true, Bool.true_eq_false, if_true, if_false, Bool.not_true, Bool.not_false, Option.some.injEq, exists_eq_left', true_and, and_true, and_self, at_rows hr]
  cases r with
  | load b c =>
    unfold Rw.enc
    obtain ⟨k1, k2⟩ := ok
    simp only [run_bind, run_bind2, run_rt, run_guard, run_if, run_opt, pt, at0, at1, at2, at3, at4, atL3, atL4, eqS, frSd, frId, neW, okA, decide_true, decide_false, decide_eq_true_eq, Bool.false_eq_true, Bool.true_eq_false, if_true, if_false, Bool.not_true, Bool.not_false, Option.some.injEq, exists_eq_left', true_and, and_true, and_self, atN (show c < cells.length by omega)]
    exact put_in_wp (rows := rows) (s := { s with pos := s.pos + 1 }) hs.held k1 q
  | store c w =>
    unfold Rw.enc
    obtain ⟨k1, k2⟩ := ok
    simp only [run_bind, run_bind2, run_rt, run_guard, run_if, run_opt, pt, at0, at1, at2, at3, at4, atL3, atL4, eqS, frSd, frId, neW, okA, decide_true, decide_false, decide_eq_true_eq, Bool.false_eq_true, Bool.true_eq_false, if_true, if_false, Bool.not_true, Bool.not_false, Option.some.injEq, exists_eq_left', true_and, and_true, and_self]
    refine now_wp hs.held k2 ?_
    refine sti_wp (by omega) (by omega) ?_
    rw [Int.toNat_natCast]
    refine ⟨_, atN (by rw [List.length_set]; omega), ?_⟩
    rw [getD_set (by omega)]
    exact q
  | swap b c w =>
    unfold Rw.enc
    obtain ⟨k1, k2, k3⟩ := ok
    simp only [run_bind, run_bind2, run_rt, run_guard, run_if, run_opt, pt, at0, at1, at2, at3, at4, atL3, atL4, eqS, frSd, frId, neW, okA, decide_true, decide_false, decide_eq_true_eq, Bool.false_eq_true, Bool.true_eq_false, if_true, if_false, Bool.not_true, Bool.not_false, Option.some.injEq, exists_eq_left', true_and, and_true, and_self, atN (show c < cells.length by omega)]
    refine now_wp hs.held k3 ?_
    refine sti_wp (by omega) (by omega) ?_
    rw [Int.toNat_natCast]
    refine put_in_wp (rows := rows) (s := { s with pos := s.pos + 1 }) hs.held k1 ?_
    refine ⟨_, atN (by rw [List.length_set]; omega), ?_⟩
    rw [getD_set (by omega)]
    exact q
  | _ => cases ow
theorem at_hand (e : p.hands[k]? = some h) : atI (p.hands.map HT.tH) (k : Int) = some h.tH := atI_nat (by rw [List.getElem?_map, e]; rfl)
theorem turn_wp {Φ : Tld × ObWorks → Prop} (o : PSOk m B p) (hB : B + 60 ≤ 90000) (hl : p.past.length ≤ 90000) (hk : p.hands[k]? = some h) (hw : h.way = "waits") (hr : h.rows[h.s.pos]? = some r) (ow : r.own = false) (q : Φ ((tch p.cells h.s r).2.2, (p.next k h r).tW)) : (m_Works_turn p.tW (k : Int)).run Φ := by
  have oh := o.hands h (List.mem_of_getElem? hk)
  have hp := (List.getElem?_eq_some_iff.mp hr).1
  have hkl := (List.getElem?_eq_some_iff.mp hk).1
  have rok := oh.rows.2 r (List.mem_of_getElem? hr)
  unfold m_Works_turn m_hand_of PS.tW
  simp only [run_bind, run_bind2, run_rt, run_guard, run_if, run_opt, pt, at0, at1, at2, at3, at4, atL3, atL4, eqS, frSd, frId, neW, okA, decide_true, decide_false, decide_eq_true_eq, Bool.false_eq_true, Bool.true_eq_false, if_true, if_false, Bool.not_true, Bool.not_false, Option.some.injEq, exists_eq_left', true_and, and_true, and_self, List.length_map, at_hand hk]
  rw [if_neg (by omega), if_neg (by omega)]
  rw [if_neg (by rw [show h.tH.way = h.way from rfl, hw]; simp)]
  refine touch_wp (rows := h.rows) (s := h.s) (way := h.way) (r := r) (m := m) oh.hs hr ow rok o.cells ?_
  refine apd_wp (by omega) ?_
  refine lead_wp (m := m) (tch_ok (m := m) oh.hs hp) hB oh.rows ?_
  rw [setI_nat (by rw [List.length_map]; exact hkl)]
  unfold PS.next PS.tW at q
  dsimp only at q
  rw [List.map_set] at q
  exact q
end
/-! ### the beginning -/
def beg (cells : List Int) (rs : List (List Rw)) : PS := ⟨cells, rs.map fun rows => ⟨rows, (led 60 rows ⟨0, List.replicate 8 0, []⟩).1, (led 60 rows ⟨0, List.replicate 8 0, []⟩).2⟩, []⟩
theorem mapL_wp {β : Type} {c : β → W (Unit × β)} (f : β → β) : ∀ {xs : List β} {Φ : List β → Prop}, (∀ x ∈ xs, ∀ Ψ : Unit × β → Prop, Ψ ((), f x) → (c x).run Ψ) → Φ (xs.map f) → (mapL xs c).run Φ
  | [], Φ, _, q => q
  | x :: xs, Φ, hc, q => by
    unfold mapL
    rw [run_bind]
    refine hc x List.mem_cons_self _ ?_
    rw [run_bind]
    refine mapL_wp f (fun y hy => hc y (List.mem_cons_of_mem _ hy)) ?_
    exact q
theorem rep8 : repL ([(0 : Int)] : List Int) (8 : Int) = List.replicate 8 0 := by decide
theorem len8 : ((("abcdefgh" : Str)).length : Int) = 8 := by decide +kernel
theorem hs0_ok {n : Nat} : HOk n 0 ⟨0, List.replicate 8 0, []⟩ := ⟨Nat.zero_le _, rfl, Nat.le_refl _⟩
def RsOk (m : Nat) (rs : List (List Rw)) : Prop := rs.length ≤ 8 ∧ ∀ rows ∈ rs, Rows m rows.length rows
theorem beg_ok {m : Nat} {cells : List Int} {rs : List (List Rw)} (hc : cells.length = m) (h : RsOk m rs) : PSOk m 60 (beg cells rs) := by
  refine ⟨hc, fun x hx => ?_, by unfold beg; dsimp only; rw [List.length_map]; exact h.1, fun k hk => by cases hk⟩
  obtain ⟨rows, hr, rfl⟩ := List.mem_map.mp hx
  refine ⟨?_, h.2 rows hr, fun e => led_waits e, led_word⟩
  have := led_ok (f := 60) (hs0_ok (n := rows.length)) (h.2 rows hr)
  rw [Nat.zero_add] at this
  exact this
section
variable {m : Nat} {cells : List Int} {rs : List (List Rw)}
theorem init_wp {m' : Int} {nb : Option (List Int)} {Φ : ObWorks → Prop} (h : RsOk m rs) (hn : ∀ Ψ : List Int → Prop, Ψ cells → (m_first_numbers m' nb).run Ψ) (q : Φ (beg cells rs).tW) : (m_Works___init__ (m', rs.map fun r => r.map Rw.enc) nb).run Φ := by
  unfold m_Works___init__
  simp only [run_bind, run_rt]
  refine hn _ ?_
  refine compG_wp (fun _ => true) (fun x : List PyData => (⟨x, 0, List.replicate 8 0, [], "waits"⟩ : ObHand)) (small (by rw [List.length_map]; have := h.1; omega)) (fun _ _ Ψ q => by exact q) (fun x _ _ Ψ q => ?_) ?_
  · unfold m_Hand___init__
    rw [len8]
    simp only [run_bind, run_rt, run_guard, rep8]
    exact ⟨by decide +kernel, ⟨by decide, by decide, by decide⟩, q⟩
  · rw [List.filter_eq_self.mpr (fun _ _ => rfl)]
    rw [List.map_map]
    have e : (List.map ((fun x : List PyData => (⟨x, 0, List.replicate 8 0, [], "waits"⟩ : ObHand)) ∘ fun r => List.map Rw.enc r) rs) = rs.map fun rows => tHand rows ⟨0, List.replicate 8 0, []⟩ "waits" := by
      apply List.map_congr_left
      intro rows _
      rfl
    rw [e]
    have key : ∀ (rs : List (List Rw)), (∀ rows ∈ rs, Rows m rows.length rows) → ∀ Φ : List ObHand → Prop, Φ ((beg cells rs).hands.map HT.tH) → (mapL (rs.map fun rows => tHand rows ⟨0, List.replicate 8 0, []⟩ "waits") m_lead_on).run Φ := by
      intro rs
      induction rs with
      | nil => intro _ Φ q; exact q
      | cons rows rs ih =>
        intro h Φ q
        rw [List.map_cons]
        unfold mapL
        rw [run_bind]
        refine lead_wp (m := m) (n := rows.length) (B := 0) hs0_ok (by decide) (h rows List.mem_cons_self) ?_
        rw [run_bind]
        exact ih (fun y hy => h y (List.mem_cons_of_mem _ hy)) _ q
    exact key rs h.2 _ q
theorem numsN_wp {m' : Nat} {Ψ : List Int → Prop} (h : m' ≤ 100) (q : Ψ (List.replicate m' 0)) : (m_first_numbers (m' : Int) none).run Ψ := by
  unfold m_first_numbers
  simp only [run_guard, run_if, run_rt]
  refine ⟨nn, ?_⟩
  rw [if_pos (by rfl)]
  refine ⟨⟨by omega, by omega, small (by simp; omega)⟩, ?_⟩
  have : repL ([(0 : Int)] : List Int) (m' : Int) = List.replicate m' 0 := by unfold repL; simp
  rw [this]; exact q
theorem numsS_wp {m' : Nat} {Ψ : List Int → Prop} (hl : cells.length = m') (h : ∀ x ∈ cells, 0 ≤ x ∧ x < 1000) (q : Ψ cells) : (m_first_numbers (m' : Int) (some cells)).run Ψ := by
  unfold m_first_numbers
  simp only [run_guard, run_if, run_rt, run_bind, run_opt, Option.some.injEq, exists_eq_left', Option.isNone_some, Bool.false_eq_true, if_false]
  refine ⟨fun b _ => Nn.ne b, ?_⟩
  rw [if_neg (by rw [hl]; simp)]
  refine forL_wp (fun _ (_ : Unit) => True) trivial ?_ (fun _ _ => q)
  intro i x s hx _
  obtain ⟨h0, h1⟩ := h x (List.mem_of_getElem? hx)
  unfold m_first_numbers_L1
  rw [run_if, if_neg (by simp; omega), run_rt]
  trivial
end
end M

/-! # works: programs drawn by a reel; what is told -/
namespace M
open PySem L2 Z
section
variable {N : Nat} {r : WReel}
theorem chrS : ∀ {i : Int} {Φ : Str → Prop}, 0 ≤ i → i < 2 → (∀ lt, Φ (sgn lt)) → (chr ("=<" : Str) i).run Φ := by
  intro i Φ h0 h1 q
  unfold chr
  simp only [run_guard, run_bind, run_opt, run_rt]
  refine ⟨by decide +kernel, ?_⟩
  by_cases c : i = 0
  · subst c
    exact ⟨61, by decide +kernel, q false⟩
  · obtain rfl : i = 1 := by omega
    exact ⟨60, by decide +kernel, q true⟩
theorem at_in {α : Type} {xs : List α} {i : Int} (h0 : 0 ≤ i) (h : i < xs.length) (P : α → Prop) (hp : ∀ x ∈ xs, P x) : ∃ a, atI xs i = some a ∧ P a := by
  obtain ⟨a, m, e⟩ := atI_some h0 h
  exact ⟨a, e, hp a m⟩
def NbOk (m : Nat) (nb : Option (List Int)) : Prop := ∀ l, nb = some l → l.length = m ∧ ∀ x ∈ l, 0 ≤ x ∧ x < 1000
def nums (m : Nat) : Option (List Int) → List Int
  | none => List.replicate m 0
  | some l => l
theorem nums_len {m : Nat} {nb : Option (List Int)} (h : NbOk m nb) : (nums m nb).length = m := by
  cases nb with
  | none => exact List.length_replicate
  | some l => exact (h l rfl).1
end
/-! ### what is told -/
section
variable {m B : Nat} {p : PS} {k : Nat} {h : HT}
def cnts (p : PS) : List Int := (List.range p.hands.length).map fun k : Nat => cntZ p.past (k : Int)
theorem handD_wp {Φ : ObHand → Prop} (e : p.hands[k]? = some h) (q : Φ h.tH) : (m_hand_of_D (p.hands.map HT.tH) (k : Int)).run Φ := by
  unfold m_hand_of_D
  have := (List.getElem?_eq_some_iff.mp e).1
  rw [run_if, if_neg (by simp; omega), run_bind, run_opt]
  exact ⟨_, at_hand e, q⟩
theorem cells_wp {Φ : List Int → Prop} (q : Φ p.cells) : (m_Works_cells p.tW).run Φ := q
theorem boxes_wp {Φ : List Int → Prop} (e : p.hands[k]? = some h) (q : Φ h.s.held) : (m_Works_boxes p.tW (k : Int)).run Φ := by
  unfold m_Works_boxes
  rw [run_bind]
  exact handD_wp e q
theorem said_wp {Φ : List Int → Prop} (e : p.hands[k]? = some h) (q : Φ h.s.said) : (m_Works_said p.tW (k : Int)).run Φ := by
  unfold m_Works_said
  rw [run_bind]
  exact handD_wp e q
theorem how_wp {Φ : Str → Prop} (e : p.hands[k]? = some h) (q : Φ h.way) : (m_Works_how p.tW (k : Int)).run Φ := by
  unfold m_Works_how
  rw [run_bind]
  exact handD_wp e q
theorem len_wp {Φ : Int → Prop} (q : Φ (p.past.length : Int)) : (m_Works___len__ p.tW).run Φ := q
theorem counts_wp {Φ : List Int → Prop} (h8 : p.hands.length ≤ 8) (q : Φ (cnts p)) : (m_Works_counts p.tW).run Φ := by
  have e : (p.tW.team.length : Int) = p.hands.length := by unfold PS.tW; dsimp only; rw [List.length_map]
  unfold m_Works_counts
  rw [e]
  simp only [run_bind, run_rt, run_guard]
  refine ⟨⟨by decide, by decide, by omega, by omega⟩, ?_⟩
  refine compG_wp (fun _ => true) (fun j => cntZ p.tW.past j) (small (by rw [rng_len]; omega)) (fun _ _ Ψ q => by exact q) (fun _ _ _ Ψ q => by exact q) ?_
  rw [List.filter_eq_self.mpr (fun _ _ => rfl)]
  have : (rng 0 (p.hands.length : Int)).map (fun j => cntZ p.tW.past j) = cnts p := by
    unfold rng cnts
    rw [List.map_map]
    have : ((p.hands.length : Int) - 0).toNat = p.hands.length := by omega
    rw [this]
    apply List.map_congr_left
    intro j _
    show cntZ p.past (0 + (j : Int)) = _
    rw [Int.zero_add]
  rw [this]
  exact q
theorem cnt_range {a : Nat} : ∀ n : Nat, (List.range n).count a = if a < n then 1 else 0
  | 0 => by simp
  | n + 1 => by
    rw [List.range_succ, List.count_append, cnt_range n, List.count_singleton]
    by_cases c : n = a
    · subst c; simp
    · have : (n == a) = false := by simp [c]
      simp only [this, Bool.false_eq_true, if_false]
      by_cases d : a < n
      · rw [if_pos d, if_pos (by omega)]
      · rw [if_neg d, if_neg (by omega)]
/-- all turns are some hand's -/
theorem sum_cnts : ∀ {past : List Int} {n : Nat}, (∀ k ∈ past, 0 ≤ k ∧ k < n) → ((List.range n).map fun k : Nat => cntZ past (k : Int)).sum = past.length := by
  intro past
  induction past with
  | nil =>
    intro n _
    have : ∀ l : List Nat, (l.map fun k : Nat => cntZ [] (k : Int)).sum = 0 := by
      intro l
      induction l with
      | nil => rfl
      | cons a l ih => rw [List.map_cons, List.sum_cons, ih]; rfl
    exact this _
  | cons x past ih =>
    intro n h
    have ihn := ih (n := n) (fun k hk => h k (List.mem_cons_of_mem _ hk))
    obtain ⟨x0, x1⟩ := h x List.mem_cons_self
    have e : ∀ (l : List Nat), ((l.map fun k : Nat => cntZ (x :: past) (k : Int)).sum : Int) = (l.map fun k : Nat => cntZ past (k : Int)).sum + ((l.count x.toNat : Nat) : Int) := by
      intro l
      induction l with
      | nil => simp
      | cons a l il =>
        rw [List.map_cons, List.sum_cons, List.map_cons, List.sum_cons, il, List.count_cons]
        have : cntZ (x :: past) (a : Int) = cntZ past (a : Int) + (if a == x.toNat then 1 else 0) := by
          unfold cntZ
          rw [List.count_cons]
          by_cases c : a = x.toNat
          · subst c
            have : (x == ((x.toNat : Nat) : Int)) = true := by simp; omega
            rw [this]
            simp
          · have c1 : (x == (a : Int)) = false := by simp; omega
            have c2 : (a == x.toNat) = false := by simp [c]
            rw [c1, c2]
            simp
        rw [this]
        split <;> simp <;> omega
    rw [e, ihn, cnt_range, if_pos (by omega), List.length_cons]
    omega
theorem gd_str {s : Str} (h : s = "waits" ∨ s = "ends" ∨ s = "lost") : Gd 6 (toPy s) := by
  rcases h with rfl | rfl | rfl <;> exact .str _ (by decide +kernel)
theorem gd_opt {o : Option Int} : Gd 5 (toPy o) := by
  cases o with
  | none => exact .non
  | some x => exact .int x
theorem gd_told {cells : List Int} {s : HS} {r : Rw} : Gd 6 (toPy (tch cells s r).2.2) := by
  refine .tup (by simp) fun x hx => ?_
  simp only [List.mem_cons, List.not_mem_nil, or_false] at hx
  have w : PyData.strOk (tch cells s r).2.2.a = true := by
    cases r <;> (unfold tch; dsimp only; decide +kernel)
  rcases hx with rfl | rfl | rfl | rfl
  · exact .str _ w
  · exact .int _
  · exact gd_opt
  · exact gd_opt
/-- which hands wait -/
def waitL (p : PS) : List Int := (rng 0 (p.hands.length : Int)).filter fun k => match p.hands[k.toNat]? with | some h => decide (h.way = "waits") | none => false
theorem waitL_mem {x : Int} (hx : x ∈ waitL p) : ∃ (k : Nat) (h : HT), x = k ∧ p.hands[k]? = some h ∧ h.way = "waits" := by
  unfold waitL at hx
  obtain ⟨h1, h2⟩ := List.mem_filter.mp hx
  obtain ⟨x0, x1⟩ := rng_mem.mp h1
  cases e : p.hands[x.toNat]? with
  | none => rw [e] at h2; cases h2
  | some h =>
    rw [e] at h2
    exact ⟨x.toNat, h, by omega, e, of_decide_eq_true h2⟩
theorem waitL_len : (waitL p).length ≤ p.hands.length := by
  unfold waitL
  refine Nat.le_trans (List.length_filter_le _ _) ?_
  rw [rng_len]; omega
theorem prog_next {r : Rw} {m' : Int} (ek : p.hands[k]? = some h) : (p.next k h r).prog m' = p.prog m' := by
  unfold PS.prog PS.next
  dsimp only
  congr 1
  rw [List.map_set]
  apply List.ext_getElem?
  intro j
  rw [List.getElem?_set, List.length_map]
  by_cases cj : k = j
  · subst cj
    have hkl := (List.getElem?_eq_some_iff.mp ek).1
    rw [if_pos rfl, if_pos hkl, List.getElem?_map, ek]
    rfl
  · rw [if_neg cj]
theorem next_past {r : Rw} : (p.next k h r).past.length = p.past.length + 1 := by unfold PS.next; dsimp only; rw [List.length_append]; rfl
theorem next_hands {r : Rw} : (p.next k h r).hands.length = p.hands.length := by unfold PS.next; dsimp only; rw [List.length_set]
end
end M

/-! # the same run in another order: where what meets keeps its order, all is told alike -/
namespace M
open PySem L2 Z
def Rw.cell : Rw → Nat
  | .load _ c => c
  | .store c _ => c
  | .swap _ c _ => c
  | _ => 0
def Rw.ld : Rw → Bool
  | .load _ _ => true
  | _ => false
def Rw.put (s : HS) : Rw → Int
  | .store _ w => w.val s.held
  | .swap _ _ w => w.val s.held
  | _ => 0
theorem tch_same {cells cells' : List Int} {s : HS} {r : Rw} (e : cells.getD r.cell 0 = cells'.getD r.cell 0) : (tch cells s r).2 = (tch cells' s r).2 := by
  cases r with
  | load b c =>
    have e : cells.getD c 0 = cells'.getD c 0 := e
    unfold tch; dsimp only; rw [e]
  | swap b c w =>
    have e : cells.getD c 0 = cells'.getD c 0 := e
    unfold tch; dsimp only; rw [e]
  | _ => rfl
theorem getD_setC {l : List Int} {a c : Nat} {x : Int} : (l.set a x).getD c 0 = if c = a ∧ c < l.length then x else l.getD c 0 := by
  rw [List.getD_eq_getElem?_getD, List.getElem?_set, List.getD_eq_getElem?_getD]
  by_cases h : a = c
  · subst h
    by_cases h2 : a < l.length
    · rw [if_pos rfl, if_pos h2, if_pos ⟨rfl, h2⟩]; rfl
    · rw [if_pos rfl, if_neg h2, if_neg (fun z => h2 z.2), List.getElem?_eq_none (by omega)]
  · rw [if_neg h, if_neg (fun z => h z.1.symm)]
theorem tch_put {cells : List Int} {s : HS} {r : Rw} (c : Nat) (ow : r.own = false) : (tch cells s r).1.getD c 0 = if r.ld = false ∧ c = r.cell ∧ c < cells.length then r.put s else cells.getD c 0 := by
  cases r with
  | load b d => rw [if_neg (fun z => by cases z.1)]; rfl
  | store d w =>
    show (cells.set d _).getD c 0 = _
    rw [getD_setC]
    show _ = if false = false ∧ c = d ∧ c < cells.length then _ else _
    simp only [true_and]; rfl
  | swap b d w =>
    show (cells.set d _).getD c 0 = _
    rw [getD_setC]
    show _ = if false = false ∧ c = d ∧ c < cells.length then _ else _
    simp only [true_and]; rfl
  | _ => cases ow
/-! ### the run that was -/
def PS.adv (p : PS) (k : Nat) : PS := match p.hands[k]? with
  | some h => match h.rows[h.s.pos]? with
    | some r => p.next k h r
    | none => p
  | none => p
def PS.after (p : PS) (o : List Nat) (j : Nat) : PS := (o.take j).foldl PS.adv p
structure Tj (p : PS) (o : List Nat) (j k : Nat) (h : HT) (r : Rw) : Prop where
  at_ : o[j]? = some k
  hand : (p.after o j).hands[k]? = some h
  way : h.way = "waits"
  row : h.rows[h.s.pos]? = some r
  own : r.own = false
def Goes (p : PS) (o : List Nat) : Prop := ∀ j k, o[j]? = some k → ∃ h r, Tj p o j k h r
def rowAt (p : PS) (o : List Nat) (j : Nat) : Rw := match o[j]? with
  | some k => match (p.after o j).hands[k]? with
    | some h => (h.rows[h.s.pos]?).getD (.go 0)
    | none => .go 0
  | none => .go 0
section
variable {p Q : PS} {o : List Nat} {i j k x c : Nat} {h : HT} {r : Rw}
theorem Tj.row_at (T : Tj p o j k h r) : rowAt p o j = r := by
  unfold rowAt
  rw [T.at_]
  dsimp only
  rw [T.hand]
  dsimp only
  rw [T.row]
  rfl
theorem after_succ (e : o[j]? = some k) : p.after o (j + 1) = (p.after o j).adv k := by
  unfold PS.after
  rw [take_snocN e, List.foldl_append]
  rfl
theorem Tj.next (T : Tj p o j k h r) : p.after o (j + 1) = (p.after o j).next k h r := by
  rw [after_succ T.at_]
  unfold PS.adv
  rw [T.hand]
  dsimp only
  rw [T.row]
theorem adv_len : (p.adv k).hands.length = p.hands.length := by
  unfold PS.adv
  split
  · split
    · exact next_hands
    · rfl
  · rfl
theorem after_len : (p.after o j).hands.length = p.hands.length := by
  unfold PS.after
  generalize o.take j = l
  induction l generalizing p with
  | nil => rfl
  | cons a l ih => rw [List.foldl_cons, ih, adv_len]
theorem adv_other (n : k ≠ x) : (p.adv k).hands[x]? = p.hands[x]? := by
  unfold PS.adv
  split
  · split
    · unfold PS.next
      dsimp only
      rw [List.getElem?_set, if_neg n]
    · rfl
  · rfl
theorem cnt_succ (e : o[j]? = some k) : (o.take (j + 1)).count x = (o.take j).count x + (if k = x then 1 else 0) := by
  rw [take_snocN e, List.count_append, List.count_singleton]
  by_cases c : k = x
  · simp [c]
  · simp [c]
theorem cnt_mono (le : i ≤ j) : (o.take i).count x ≤ (o.take j).count x := by
  have : o.take i = (o.take j).take i := by rw [List.take_take, Nat.min_eq_left le]
  rw [this]
  exact (List.take_sublist _ _).count_le _
theorem cnt_full (le : o.length ≤ j) : (o.take j).count x = o.count x := by rw [List.take_of_length_le le]
theorem cnt_inj (e1 : o[i]? = some k) (e2 : o[j]? = some k) (e : (o.take i).count k = (o.take j).count k) : i = j := by
  rcases Nat.lt_trichotomy i j with l | l | l
  · have a := cnt_succ (x := k) e1
    rw [if_pos rfl] at a
    have b := cnt_mono (o := o) (x := k) (show i + 1 ≤ j from l)
    omega
  · exact l
  · have a := cnt_succ (x := k) e2
    rw [if_pos rfl] at a
    have b := cnt_mono (o := o) (x := k) (show j + 1 ≤ i from l)
    omega
theorem idx_of {g : Nat} (lt : g < o.count k) : ∃ j, o[j]? = some k ∧ (o.take j).count k = g := by
  have key : ∀ n, n ≤ o.length → g < (o.take n).count k → ∃ j, o[j]? = some k ∧ (o.take j).count k = g := by
    intro n
    induction n with
    | zero => intro _ h; simp at h
    | succ n ih =>
      intro hn h
      obtain ⟨y, ey⟩ : ∃ y, o[n]? = some y := ⟨_, List.getElem?_eq_getElem (by omega)⟩
      rw [cnt_succ ey] at h
      by_cases c : g < (o.take n).count k
      · exact ih (by omega) c
      · by_cases yk : y = k
        · subst yk
          rw [if_pos rfl] at h
          exact ⟨n, ey, by omega⟩
        · rw [if_neg yk] at h
          omega
  exact key o.length (Nat.le_refl _) (by rw [List.take_length]; exact lt)
theorem hand_keep (le : i ≤ j) (hj : j ≤ o.length) (e : (o.take i).count x = (o.take j).count x) : (p.after o j).hands[x]? = (p.after o i).hands[x]? := by
  induction j with
  | zero => rw [show i = 0 by omega]
  | succ j ih =>
    by_cases c : i = j + 1
    · rw [c]
    · obtain ⟨y, ey⟩ : ∃ y, o[j]? = some y := ⟨_, List.getElem?_eq_getElem (by omega)⟩
      have a := cnt_succ (x := x) ey
      have b := cnt_mono (o := o) (x := x) (show i ≤ j by omega)
      have n : y ≠ x := fun z => by rw [if_pos z] at a; omega
      rw [if_neg n] at a
      rw [after_succ ey, adv_other n, ih (by omega) (by omega) (by omega)]
theorem hand_same (hi : i ≤ o.length) (hj : j ≤ o.length) (e : (o.take i).count x = (o.take j).count x) : (p.after o j).hands[x]? = (p.after o i).hands[x]? := by
  rcases Nat.le_total i j with l | l
  · exact hand_keep l hj e
  · exact (hand_keep l hi e.symm).symm
/-! ### what writes, what meets -/
def Wr (p : PS) (o : List Nat) (i c : Nat) : Prop := i < o.length ∧ (rowAt p o i).cell = c ∧ (rowAt p o i).ld = false
def Meets (p : PS) (o : List Nat) (i j : Nat) : Prop := i < j ∧ j < o.length ∧ o[i]? ≠ o[j]? ∧ (rowAt p o i).cell = (rowAt p o j).cell ∧ ((rowAt p o i).ld = false ∨ (rowAt p o j).ld = false)
def Dir (p : PS) (o : List Nat) (i j : Nat) : Prop := i < j ∧ j < o.length ∧ (o[i]? = o[j]? ∨ Meets p o i j)
theorem dir_w (l : i < j) (hj : j < o.length) (w : Wr p o i c) (t : (rowAt p o j).cell = c) : Dir p o i j := by
  refine ⟨l, hj, ?_⟩
  by_cases e : o[i]? = o[j]?
  · exact .inl e
  · exact .inr ⟨l, hj, e, by rw [w.2.1, t], .inl w.2.2⟩
theorem dir_w' (l : i < j) (w : Wr p o j c) (t : (rowAt p o i).cell = c) : Dir p o i j := by
  refine ⟨l, w.1, ?_⟩
  by_cases e : o[i]? = o[j]?
  · exact .inl e
  · exact .inr ⟨l, w.1, e, by rw [w.2.1, t], .inr w.2.2⟩
theorem next_cells : (p.next k h r).cells = (tch p.cells h.s r).1 := rfl
theorem cell_keep (G : Goes p o) (le : i ≤ j) (hj : j ≤ o.length) (n : ∀ x, i ≤ x → x < j → ¬ Wr p o x c) : (p.after o j).cells.getD c 0 = (p.after o i).cells.getD c 0 := by
  induction j with
  | zero => rw [show i = 0 by omega]
  | succ j ih =>
    by_cases e : i = j + 1
    · rw [e]
    · obtain ⟨y, ey⟩ : ∃ y, o[j]? = some y := ⟨_, List.getElem?_eq_getElem (by omega)⟩
      obtain ⟨h, r, T⟩ := G j y ey
      have nw := n j (by omega) (by omega)
      rw [T.next, next_cells, tch_put c T.own, if_neg ?_, ih (by omega) (by omega) (fun x h1 h2 => n x h1 (by omega))]
      rintro ⟨z1, z2, _⟩
      exact nw ⟨by omega, by rw [T.row_at]; exact z2.symm, by rw [T.row_at]; exact z1⟩
theorem tch_clen {cells : List Int} {s : HS} : (tch cells s r).1.length = cells.length := tch_cells
theorem after_clen : (p.after o j).cells.length = p.cells.length := by
  unfold PS.after
  generalize o.take j = l
  induction l generalizing p with
  | nil => rfl
  | cons a l ih =>
    rw [List.foldl_cons, ih]
    unfold PS.adv
    split
    · split
      · exact tch_clen
      · rfl
    · rfl
/-! ### another order, amid -/
def num (o : List Nat) (j : Nat) : Nat := (o.take j).count (o.getD j 0)
/-- the j-th touch of the run is done -/
def Dn (o : List Nat) (g : Nat → Nat) (j : Nat) : Prop := j < o.length ∧ num o j < g (o.getD j 0)
structure AhOk (p : PS) (o : List Nat) (ah : Nat → Nat → Prop) : Prop where
  dir : ∀ i j, Dir p o i j → ah i j
  ex : ∀ i j, ah i j → i < j ∧ j < o.length ∧ (Dir p o i j ∨ ∃ x, i < x ∧ x < j ∧ ah x j ∧ ah i x)
structure Amid (p : PS) (o : List Nat) (ah : Nat → Nat → Prop) (g : Nat → Nat) (Q : PS) : Prop where
  len : Q.hands.length = p.hands.length
  cl : Q.cells.length = p.cells.length
  le : ∀ k, g k ≤ o.count k
  hands : ∀ k j, j ≤ o.length → (o.take j).count k = g k → Q.hands[k]? = (p.after o j).hands[k]?
  cells : ∀ c, ∃ mc, mc ≤ o.length ∧ Q.cells.getD c 0 = (p.after o mc).cells.getD c 0 ∧ (∀ i, i < mc → Wr p o i c → Dn o g i) ∧ ∀ i, mc ≤ i → Wr p o i c → ¬ Dn o g i
  closed : ∀ i j, ah i j → Dn o g j → Dn o g i
  cn : ∀ k : Nat, cntZ Q.past (k : Int) = (g k : Int)
theorem getD_of {d : Nat} (e : o[j]? = some k) : o.getD j d = k := by rw [List.getD_eq_getElem?_getD, e]; rfl
theorem dn_of {g : Nat → Nat} (e : o[j]? = some k) : Dn o g j ↔ (o.take j).count k < g k := by
  unfold Dn num
  rw [getD_of e]
  exact ⟨fun z => z.2, fun z => ⟨(List.getElem?_eq_some_iff.mp e).1, z⟩⟩
theorem amid0 {ah : Nat → Nat → Prop} (hp : p.past = []) : Amid p o ah (fun _ => 0) p := by
  have nd : ∀ i, ¬ Dn o (fun _ => 0) i := fun i z => absurd z.2 (Nat.not_lt_zero _)
  refine ⟨rfl, rfl, fun _ => Nat.zero_le _, fun k j hj e => ?_, fun c => ⟨0, Nat.zero_le _, rfl, fun i z => by omega, fun i _ _ => nd i⟩, fun i j _ z => absurd z (nd j), fun k => by rw [hp]; rfl⟩
  exact (hand_keep (Nat.zero_le j) hj (by rw [e]; rfl)).symm
def bump (g : Nat → Nat) (k : Nat) : Nat → Nat := fun x => if x = k then g x + 1 else g x
theorem dn_bump {g : Nat → Nat} (T : o[j]? = some k) (e : (o.take j).count k = g k) : Dn o (bump g k) i ↔ Dn o g i ∨ i = j := by
  by_cases hi : i < o.length
  · obtain ⟨y, ey⟩ : ∃ y, o[i]? = some y := ⟨_, List.getElem?_eq_getElem hi⟩
    rw [dn_of ey, dn_of ey]
    unfold bump
    by_cases c : y = k
    · subst c
      rw [if_pos rfl]
      constructor
      · intro z
        by_cases q : (o.take i).count y < g y
        · exact .inl q
        · exact .inr (cnt_inj ey T (by omega))
      · rintro (z | z)
        · omega
        · subst z; omega
    · rw [if_neg c]
      constructor
      · exact .inl
      · rintro (z | z)
        · exact z
        · subst z
          rw [T] at ey
          exact absurd (Option.some.inj ey).symm c
  · constructor
    · intro z; exact absurd z.1 hi
    · rintro (z | z)
      · exact absurd z.1 hi
      · subst z; exact absurd (List.getElem?_eq_some_iff.mp T).1 hi
theorem ahead_dn {ah : Nat → Nat → Prop} {g : Nat → Nat} (A : AhOk p o ah) (q : Amid p o ah g Q) (T : o[j]? = some k) (e : (o.take j).count k = g k) (w : ∀ i, Meets p o i j → (∀ x, i < x → x < j → ah x j → ¬ ah i x) → Dn o g i) : ∀ i, ah i j → Dn o g i := by
  have key : ∀ n i, j - i ≤ n → ah i j → Dn o g i := by
    intro n
    induction n with
    | zero => intro i hn a; have := (A.ex i j a).1; omega
    | succ n ih =>
      intro i hn a
      obtain ⟨l, hj, d⟩ := A.ex i j a
      by_cases c : ∃ x, i < x ∧ x < j ∧ ah x j ∧ ah i x
      · obtain ⟨x, h1, h2, h3, h4⟩ := c
        exact q.closed i x h4 (ih x (by omega) h3)
      · have d' : Dir p o i j := by
          rcases d with d | d
          · exact d
          · exact absurd d c
        obtain ⟨_, _, s | m⟩ := d'
        · rw [T] at s
          rw [dn_of s]
          have a1 := cnt_succ (x := k) s
          rw [if_pos rfl] at a1
          have a2 := cnt_mono (o := o) (x := k) (show i + 1 ≤ j from l)
          omega
        · exact w i m fun x h1 h2 h3 h4 => c ⟨x, h1, h2, h3, h4⟩
  exact fun i => key _ i (Nat.le_refl _)
theorem Amid.step {ah : Nat → Nat → Prop} {g : Nat → Nat} (G : Goes p o) (A : AhOk p o ah) (q : Amid p o ah g Q) (T : Tj p o j k h r) (e : (o.take j).count k = g k) (w : ∀ i, Meets p o i j → (∀ x, i < x → x < j → ah x j → ¬ ah i x) → Dn o g i) :
    Q.hands[k]? = some h ∧ (tch Q.cells h.s r).2 = (tch (p.after o j).cells h.s r).2 ∧ Amid p o ah (bump g k) (Q.next k h r) := by
  have hj := (List.getElem?_eq_some_iff.mp T.at_).1
  have ahd := ahead_dn A q T.at_ e w
  have nj : ¬ Dn o g j := by rw [dn_of T.at_]; omega
  have hq : Q.hands[k]? = some h := by rw [q.hands k j (by omega) e]; exact T.hand
  have dcl : ∀ i, Dir p o j i → ¬ Dn o g i := fun i d z => nj (q.closed j i (A.dir j i d) z)
  have dcb : ∀ i, Dir p o i j → Dn o g i := fun i d => ahd i (A.dir i j d)
  have cellq : Q.cells.getD r.cell 0 = (p.after o j).cells.getD r.cell 0 := by
    obtain ⟨mc, m1, m2, m3, m4⟩ := q.cells r.cell
    rw [m2]
    rcases Nat.le_total mc j with l | l
    · refine (cell_keep G l (by omega) fun x h1 h2 wx => ?_).symm
      exact m4 x h1 wx (dcb x (dir_w h2 hj wx (by rw [T.row_at])))
    · refine cell_keep G l m1 fun x h1 h2 wx => ?_
      have dx := m3 x h2 wx
      by_cases c : x = j
      · subst c; exact nj dx
      · exact dcl x (dir_w' (by omega) wx (by rw [T.row_at])) dx
  have ts := tch_same (s := h.s) cellq
  refine ⟨hq, ts, ?_⟩
  have hkl := (List.getElem?_eq_some_iff.mp hq).1
  have jn : (p.after o (j + 1)).hands = (p.after o j).hands.set k ⟨h.rows, (led 60 h.rows (tch (p.after o j).cells h.s r).2.1).1, (led 60 h.rows (tch (p.after o j).cells h.s r).2.1).2⟩ := by rw [T.next]; rfl
  have c1 := cnt_succ (x := k) T.at_
  rw [if_pos rfl] at c1
  refine ⟨by rw [next_hands]; exact q.len, by rw [next_cells, tch_clen]; exact q.cl, fun x => ?_, fun x y hy ey => ?_, fun c => ?_, fun a b ab db => ?_, fun x => ?_⟩
  · unfold bump
    split
    · rename_i z
      subst z
      have := cnt_mono (o := o) (x := x) (show j + 1 ≤ o.length from hj)
      rw [List.take_length] at this
      omega
    · exact q.le x
  · have en : (Q.next k h r).hands = Q.hands.set k ⟨h.rows, (led 60 h.rows (tch Q.cells h.s r).2.1).1, (led 60 h.rows (tch Q.cells h.s r).2.1).2⟩ := rfl
    rw [en, ts]
    by_cases z : x = k
    · subst z
      unfold bump at ey
      rw [if_pos rfl] at ey
      rw [hand_same (i := j + 1) (j := y) hj hy (by omega), jn, List.getElem?_set, List.getElem?_set, if_pos rfl, if_pos rfl, if_pos hkl, if_pos (by rw [after_len, ← q.len]; exact hkl)]
    · unfold bump at ey
      rw [if_neg z] at ey
      rw [List.getElem?_set, if_neg (fun w => z w.symm)]
      exact q.hands x y hy ey
  · by_cases cw : r.ld = false ∧ c = r.cell
    · obtain ⟨c2, rfl⟩ := cw
      by_cases cb : r.cell < p.cells.length
      · refine ⟨j + 1, hj, ?_, fun i hi wi => ?_, fun i hi wi z => ?_⟩
        · rw [next_cells, tch_put _ T.own, if_pos ⟨c2, rfl, by rw [q.cl]; exact cb⟩, T.next, next_cells, tch_put _ T.own, if_pos ⟨c2, rfl, by rw [after_clen]; exact cb⟩]
        · rw [dn_bump T.at_ e]
          by_cases ij : i = j
          · exact .inr ij
          · exact .inl (dcb i (dir_w (by omega) hj wi (by rw [T.row_at])))
        · rw [dn_bump T.at_ e] at z
          rcases z with z | z
          · exact dcl i (dir_w' (by omega) wi (by rw [T.row_at])) z
          · omega
      · refine ⟨j + 1, hj, ?_, fun i hi wi => ?_, fun i hi wi z => ?_⟩
        · rw [List.getD_eq_getElem?_getD, List.getD_eq_getElem?_getD, List.getElem?_eq_none (by rw [next_cells, tch_clen, q.cl]; omega), List.getElem?_eq_none (by rw [after_clen]; omega)]
        · rw [dn_bump T.at_ e]
          by_cases ij : i = j
          · exact .inr ij
          · exact .inl (dcb i (dir_w (by omega) hj wi (by rw [T.row_at])))
        · rw [dn_bump T.at_ e] at z
          rcases z with z | z
          · exact dcl i (dir_w' (by omega) wi (by rw [T.row_at])) z
          · omega
    · obtain ⟨mc, m1, m2, m3, m4⟩ := q.cells c
      refine ⟨mc, m1, ?_, fun i hi wi => ?_, fun i hi wi z => ?_⟩
      · rw [next_cells, tch_put _ T.own, if_neg (fun z => cw ⟨z.1, z.2.1⟩)]
        exact m2
      · rw [dn_bump T.at_ e]
        exact .inl (m3 i hi wi)
      · rw [dn_bump T.at_ e] at z
        rcases z with z | z
        · exact m4 i hi wi z
        · subst z
          exact cw ⟨by rw [← T.row_at]; exact wi.2.2, by rw [← T.row_at]; exact wi.2.1.symm⟩
  · rw [dn_bump T.at_ e] at db ⊢
    rcases db with z | z
    · exact .inl (q.closed a b ab z)
    · subst z
      exact .inl (ahd a ab)
  · show cntZ (Q.past ++ [(k : Int)]) (x : Int) = _
    rw [cnt_snoc, q.cn]
    unfold bump
    by_cases z : x = k
    · subst z; rw [if_pos rfl, if_pos rfl]; omega
    · rw [if_neg (by omega), if_neg z]; omega
/-- where all is done, the works are those of the run -/
theorem Amid.done {ah : Nat → Nat → Prop} {g : Nat → Nat} (G : Goes p o) (q : Amid p o ah g Q) (e : ∀ k, g k = o.count k) : Q.cells = (p.after o o.length).cells ∧ Q.hands = (p.after o o.length).hands := by
  have dn : ∀ i, i < o.length → Dn o g i := fun i hi => by
    obtain ⟨y, ey⟩ : ∃ y, o[i]? = some y := ⟨_, List.getElem?_eq_getElem hi⟩
    rw [dn_of ey, e y]
    have a := cnt_succ (x := y) ey
    rw [if_pos rfl] at a
    have b := cnt_mono (o := o) (x := y) (show i + 1 ≤ o.length from hi)
    rw [List.take_length] at b
    omega
  constructor
  · apply List.ext_getElem?
    intro c
    by_cases hc : c < Q.cells.length
    · obtain ⟨mc, m1, m2, m3, m4⟩ := q.cells c
      have := cell_keep (c := c) G m1 (Nat.le_refl _) fun x h1 h2 wx => m4 x h1 wx (dn x h2)
      rw [← this] at m2
      have l2 : c < (p.after o o.length).cells.length := by rw [after_clen, ← q.cl]; exact hc
      rw [List.getD_eq_getElem?_getD, List.getD_eq_getElem?_getD, List.getElem?_eq_getElem hc, List.getElem?_eq_getElem l2] at m2
      rw [List.getElem?_eq_getElem hc, List.getElem?_eq_getElem l2]
      exact congrArg some m2
    · rw [List.getElem?_eq_none (by omega), List.getElem?_eq_none (by rw [after_clen, ← q.cl]; omega)]
  · apply List.ext_getElem?
    intro k
    exact q.hands k o.length (Nat.le_refl _) (by rw [List.take_length, e k])
/-- the first touch of the run that is not done may be done next -/
theorem first_free {ah : Nat → Nat → Prop} {g : Nat → Nat} (q : Amid p o ah g Q) (hk : g k < o.count k) : ∃ j x, o[j]? = some x ∧ (o.take j).count x = g x ∧ ∀ i, i < j → Dn o g i := by
  have key : ∀ n, (∀ i, i < n → i < o.length → Dn o g i) ∨ ∃ j x, o[j]? = some x ∧ ¬ Dn o g j ∧ ∀ i, i < j → Dn o g i := by
    intro n
    induction n with
    | zero => exact .inl fun i hi => by omega
    | succ n ih =>
      rcases ih with ih | ih
      · by_cases hn : n < o.length
        · by_cases d : Dn o g n
          · refine .inl fun i hi hl => ?_
            by_cases c : i = n
            · rw [c]; exact d
            · exact ih i (by omega) hl
          · exact .inr ⟨n, o[n], List.getElem?_eq_getElem hn, d, fun i hi => ih i hi (by omega)⟩
        · exact .inl fun i hi hl => ih i (by omega) hl
      · exact .inr ih
  rcases key o.length with z | ⟨j, x, h1, h2, h3⟩
  · obtain ⟨j, ej, cj⟩ := idx_of hk
    have := z j (List.getElem?_eq_some_iff.mp ej).1 (List.getElem?_eq_some_iff.mp ej).1
    rw [dn_of ej] at this
    omega
  · refine ⟨j, x, h1, ?_, h3⟩
    rw [dn_of h1] at h2
    by_cases c : (o.take j).count x = g x
    · exact c
    · have hc : g x < o.count x := by
        have a := cnt_mono (o := o) (x := x) (show j ≤ o.length by have := (List.getElem?_eq_some_iff.mp h1).1; omega)
        rw [List.take_length] at a
        omega
      obtain ⟨i, ei, ci⟩ := idx_of hc
      have hij : i < j := by
        rcases Nat.lt_or_ge i j with l | l
        · exact l
        · have := cnt_mono (o := o) (x := x) l; omega
      have := h3 i hij
      rw [dn_of ei] at this
      omega
end
end M

/-! # k85: swapped numbers stay -/
namespace M
open PySem L2 Z
/-! ### rows that swap only -/
def swp (a : Nat) : Rw → Prop
  | .swap b _ w => w = .one (.box b)
  | .go t => a ≤ t
  | .unless _ _ _ t => a ≤ t
  | _ => False
def Sw (a : Nat) (rows : List Rw) : Prop := ∀ (i : Nat) (r : Rw), a ≤ i → rows[i]? = some r → swp a r
theorem led_held {a : Nat} {rows : List Rw} (S : Sw a rows) : ∀ {f : Nat} {s : HS}, a ≤ s.pos → (led f rows s).1.held = s.held ∧ a ≤ (led f rows s).1.pos := by
  intro f
  induction f with
  | zero =>
    intro s h
    unfold led
    split
    · exact ⟨rfl, h⟩
    · split <;> exact ⟨rfl, h⟩
  | succ f ih =>
    intro s h
    unfold led
    split
    · exact ⟨rfl, h⟩
    · rename_i r e
      have sr := S s.pos r h e
      split
      · have key : (stp s r).held = s.held ∧ a ≤ (stp s r).pos := by
          cases r with
          | go t => exact ⟨rfl, sr⟩
          | «unless» lt w w' t =>
            have : ∀ c : Bool, (if c = true then { s with pos := s.pos + 1 } else { s with pos := t } : HS).held = s.held ∧ a ≤ (if c = true then { s with pos := s.pos + 1 } else { s with pos := t } : HS).pos := fun c => by
              cases c
              · exact ⟨rfl, sr⟩
              · exact ⟨rfl, Nat.le_succ_of_le h⟩
            exact this _
          | swap b c w => rename_i ow; cases ow
          | _ => cases sr
        have := ih (s := stp s r) key.2
        exact ⟨this.1.trans key.1, this.2⟩
      · exact ⟨rfl, h⟩
abbrev Lts := List (Nat × Int)
def hb (ls : Lts) (h : List Int) : List Int := ls.foldl (fun h p => h.set p.1 p.2) h
theorem hb_len : ∀ {ls : Lts} {h : List Int}, (hb ls h).length = h.length
  | [], _ => rfl
  | p :: ls, h => by
    show (hb ls (h.set p.1 p.2)).length = _
    rw [hb_len, List.length_set]
theorem hb_snoc {ls : Lts} {h : List Int} {p : Nat × Int} : hb (ls ++ [p]) h = (hb ls h).set p.1 p.2 := by unfold hb; rw [List.foldl_append]; rfl
def ltRow (p : Nat × Int) : Rw := .lett p.1 (.one (.num p.2))
theorem led_lets {ls : Lts} {rest : List Rw} (S : Sw ls.length (ls.map ltRow ++ rest)) : ∀ (d j f : Nat) (h : List Int), ls.length - j = d → j ≤ ls.length → d ≤ f → (led f (ls.map ltRow ++ rest) ⟨j, h, []⟩).1.held = hb (ls.drop j) h ∧ ls.length ≤ (led f (ls.map ltRow ++ rest) ⟨j, h, []⟩).1.pos := by
  intro d
  induction d with
  | zero =>
    intro j f h hd hj _
    obtain rfl : j = ls.length := by omega
    rw [List.drop_length]
    exact led_held S (Nat.le_refl _)
  | succ d ih =>
    intro j f h hd hj hf
    obtain ⟨f, rfl⟩ : ∃ g, f = g + 1 := ⟨f - 1, by omega⟩
    obtain ⟨p, ep⟩ : ∃ p, ls[j]? = some p := ⟨_, List.getElem?_eq_getElem (by omega)⟩
    have er : (ls.map ltRow ++ rest)[j]? = some (ltRow p) := by
      rw [List.getElem?_append_left (by rw [List.length_map]; omega), List.getElem?_map, ep]
      rfl
    have ed : ls.drop j = p :: ls.drop (j + 1) := by
      have hl := (List.getElem?_eq_some_iff.mp ep).1
      rw [List.drop_eq_getElem_cons hl]
      congr 1
      rw [List.getElem?_eq_getElem hl] at ep
      exact Option.some.inj ep
    have := ih (j + 1) f (h.set p.1 p.2) (by omega) (by omega) (by omega)
    have e1 : led (f + 1) (ls.map ltRow ++ rest) ⟨j, h, []⟩ = led f (ls.map ltRow ++ rest) ⟨j + 1, h.set p.1 p.2, []⟩ := by
      rw [led]
      dsimp only
      rw [er]
      rfl
    rw [e1, ed]
    exact this
/-- a hand drawn -/
structure Hd (m : Nat) (hd : Lts × List Rw) : Prop where
  l8 : hd.1.length ≤ 8
  r8 : hd.2.length ≤ 8
  ok : Rows m (hd.1.map ltRow ++ hd.2).length (hd.1.map ltRow ++ hd.2)
  sw : Sw hd.1.length (hd.1.map ltRow ++ hd.2)
section
variable {N m : Nat} {r : WReel}
theorem row85_wp {a sz : Nat} {Φ : PyData × WReel → Prop} (hr : RlOk N r) (hN : N < 2 ^ 40) (m0 : 0 < m) (m1 : m ≤ 100) (s8 : sz ≤ 8) (q : ∀ w r', Rw.ok m (a + sz) w → swp a w → RlOk (N + 8) r' → Φ (w.enc, r')) : (m_law_row r (a : Int) (sz : Int) (m : Int)).run Φ := by
  unfold m_law_row
  rw [run_bind2]
  refine draw_wp hr (by omega) (by decide) (by decide) fun kind r1 k0 k1 h1 => ?_
  dsimp only at k0 k1 ⊢
  rw [run_bind, run_rt, run_bind2]
  refine draw_wp h1 (by omega) (by decide) (by decide) fun b r2 b0 b1 h2 => ?_
  dsimp only at b0 b1 ⊢
  rw [run_bind]
  refine chr_wp b0 (by omega) ?_
  rw [run_bind, run_rt, run_bind2]
  refine draw_wp h2 (by omega) (by omega) (by omega) fun t r3 t0 t1 h3 => ?_
  dsimp only at t0 t1 ⊢
  obtain ⟨tn, rfl⟩ : ∃ x : Nat, t = x := ⟨t.toNat, by omega⟩
  have qb : b.toNat < 8 := by omega
  rw [run_bind, run_rt, run_if]
  have et : (a : Int) + (tn : Int) = ((a + tn : Nat) : Int) := by omega
  rw [et]
  by_cases c : kind > 1
  · rw [if_pos (by simpa using c), run_bind2]
    refine draw_wp h3 (by omega) (by omega) (by omega) fun x r4 x0 x1 h4 => ?_
    dsimp only at x0 x1 ⊢
    obtain ⟨cl, rfl⟩ : ∃ cl : Nat, x = cl := ⟨x.toNat, by omega⟩
    exact q (.swap b.toNat cl (.one (.box b.toNat))) r4 ⟨qb, by omega, qb⟩ rfl (h4.mo (by omega))
  · rw [if_neg (by simpa using c), run_if]
    by_cases c : kind = 1
    · rw [if_pos (by simpa using c), run_bind2]
      refine draw_wp h3 (by omega) (by decide) (by decide) fun x r4 x0 x1 h4 => ?_
      dsimp only at x0 x1 ⊢
      rw [run_bind]
      refine chrS x0 x1 fun lt => ?_
      rw [run_bind2]
      refine draw_wp h4 (by omega) (by decide) (by decide) fun y r5 y0 y1 h5 => ?_
      dsimp only at y0 y1 ⊢
      rw [run_bind]
      refine chr_wp y0 (by omega) ?_
      exact q (.unless lt (.one (.box b.toNat)) (.one (.box y.toNat)) (a + tn)) r5 ⟨qb, show y.toNat < 8 by omega, by omega⟩ (Nat.le_add_right a tn) (h5.mo (by omega))
    · rw [if_neg (by simpa using c)]
      exact q (.go (a + tn)) r3 (show a + tn ≤ a + sz by omega) (Nat.le_add_right a tn) (h3.mo (by omega))
theorem hand85_wp {Φ : (List PyData × List Int) × WReel → Prop} (hr : RlOk N r) (hN : N < 2 ^ 39) (m0 : 0 < m) (m1 : m ≤ 100) (q : ∀ (hd : Lts × List Rw) r', Hd m hd → RlOk (N + 100) r' → Φ (((hd.1.map ltRow ++ hd.2).map Rw.enc, hb hd.1 (List.replicate 8 0)), r')) : (m_law_hand r (m : Int)).run Φ := by
  unfold m_law_hand
  rw [run_bind, run_rt, run_guard, run_bind, run_rt, run_bind2, rep8]
  refine ⟨⟨by decide, by decide, by decide⟩, ?_⟩
  refine draw_wp hr (by omega) (by decide) (by decide) fun n r1 n0 n1 h1 => ?_
  dsimp only at n0 n1 ⊢
  rw [run_guard, run_bind]
  refine ⟨by unfold rngOk; omega, ?_⟩
  refine forL_wp (fun i (s : WReel × List PyData × List Int) => RlOk (N + 1 + 2 * i) s.1 ∧ ∃ ls : Lts, ls.length = i ∧ s.2.1 = (ls.map ltRow).map Rw.enc ∧ s.2.2 = hb ls (List.replicate 8 0) ∧ ∀ p ∈ ls, p.1 < 8 ∧ 0 ≤ p.2 ∧ p.2 < 1000) ⟨h1.mo (by omega), [], rfl, rfl, rfl, by simp⟩ ?_ ?_
  · rintro i x ⟨ra, rows, boxes⟩ hx ⟨ha, ls, hl, er, eb, ho⟩
    dsimp only at ha er eb
    subst er eb
    have hi := (List.getElem?_eq_some_iff.mp hx).1
    rw [rng_len] at hi
    have h8 : (hb ls (List.replicate 8 0)).length = 8 := by rw [hb_len, List.length_replicate]
    unfold m_law_hand_L1
    rw [run_bind2]
    refine draw_wp ha (by omega) (by decide) (by decide) fun b r2 b0 b1 h2 => ?_
    dsimp only at b0 b1 ⊢
    rw [run_bind, run_rt, run_bind2]
    refine draw_wp h2 (by omega) (by decide) (by decide) fun v r3 v0 v1 h3 => ?_
    dsimp only at v0 v1 ⊢
    obtain ⟨bn, rfl⟩ : ∃ x : Nat, b = x := ⟨b.toNat, by omega⟩
    rw [run_bind]
    refine sti_wp (by omega) (by rw [h8]; omega) ?_
    rw [Int.toNat_natCast, run_bind]
    refine chr_wp (by omega) (by omega) ?_
    rw [Int.toNat_natCast, run_bind, run_opt]
    refine ⟨v, ?_, ?_⟩
    · rw [atN (by rw [List.length_set, h8]; omega), getD_setC, if_pos ⟨rfl, by rw [h8]; omega⟩]
    · rw [run_bind]
      refine apd_wp (by rw [List.length_map, List.length_map]; omega) ?_
      rw [run_rt]
      refine ⟨h3.mo (by omega), ls ++ [(bn, v)], by rw [List.length_append, hl]; rfl, ?_, by rw [hb_snoc], fun p hp => ?_⟩
      · dsimp only
        rw [List.map_append, List.map_append]
        rfl
      · rcases List.mem_append.mp hp with h | h
        · exact ho p h
        · rw [List.mem_singleton.mp h]; exact ⟨by dsimp only; omega, v0, v1⟩
  · rintro ⟨ra, rows, boxes⟩ ⟨ha, ls, hl, er, eb, ho⟩
    dsimp only at ha er eb
    subst er eb
    rw [rng_len] at hl ha
    unfold m_law_hand_R1
    rw [run_bind2]
    refine draw_wp ha (by omega) (by decide) (by decide) fun sz r2 s0 s1 h2 => ?_
    dsimp only at s0 s1 ⊢
    obtain ⟨sn, rfl⟩ : ∃ x : Nat, sz = x := ⟨sz.toNat, by omega⟩
    rw [run_bind, run_rt, run_guard, run_bind]
    refine ⟨by unfold rngOk; omega, ?_⟩
    rw [List.length_map, List.length_map]
    refine compSG_wp (fun j s acc => RlOk (N + 30 + 8 * j) s ∧ ∃ ws : List Rw, acc = ws.map Rw.enc ∧ ws.length = j ∧ ∀ w ∈ ws, w.ok m (ls.length + sn) ∧ swp ls.length w) (small (by rw [rng_len]; omega)) ⟨h2.mo (by omega), [], rfl, rfl, by simp⟩ ?_ ?_
    · rintro j x rd acc hx ⟨hd, ws, ea, al, ao⟩
      subst ea
      have hj := (List.getElem?_eq_some_iff.mp hx).1
      rw [rng_len] at hj
      rw [run_bind2]
      refine row85_wp hd (by omega) m0 m1 (by omega) fun w re ok' sw he => ?_
      rw [run_rt]
      refine ⟨he.mo (by omega), ws ++ [w], by rw [List.map_append]; rfl, by rw [List.length_append, al]; rfl, fun y hy => ?_⟩
      rcases List.mem_append.mp hy with h | h
      · exact ao y h
      · rw [List.mem_singleton.mp h]; exact ⟨ok', sw⟩
    · rintro rd acc ⟨hd, ws, ea, al, ao⟩
      subst ea
      rw [rng_len] at al hd
      have wn : ws.length = sn := by omega
      rw [run_guard, run_rt, ← List.map_append]
      have len : (ls.map ltRow ++ ws).length = ls.length + sn := by rw [List.length_append, List.length_map, wn]
      refine ⟨small (by dsimp only; rw [List.length_map]; omega), q (ls, ws) rd ⟨by dsimp only; omega, by dsimp only; omega, ⟨rfl, fun w hw => ?_⟩, fun i w hi e => ?_⟩ (hd.mo (by omega))⟩
      · rw [len]
        rcases List.mem_append.mp hw with h | h
        · obtain ⟨p, hp, rfl⟩ := List.mem_map.mp h
          obtain ⟨p1, p2, p3⟩ := ho p hp
          exact ⟨p1, p2, p3⟩
        · exact (ao w h).1
      · dsimp only at hi e ⊢
        rw [List.getElem?_append_right (by rw [List.length_map]; exact hi)] at e
        exact (ao w (List.mem_of_getElem? e)).2
end
/-! ### what stays -/
theorem cnt_set {l : List Int} {i : Nat} {y a : Int} (h : i < l.length) : (l.set i y).count a + (if l.getD i 0 = a then 1 else 0) = l.count a + (if y = a then 1 else 0) := by
  have e : l.getD i 0 = l[i] := by rw [List.getD_eq_getElem?_getD, List.getElem?_eq_getElem h]; rfl
  have c := List.count_set (a := y) (b := a) h
  rw [c, e]
  have pos : l[i] = a → 0 < l.count a := fun z => List.count_pos_iff.mpr (z ▸ List.getElem_mem h)
  by_cases c1 : l[i] = a <;> by_cases c2 : y = a <;> simp [c1, c2] <;> (try have := pos c1) <;> omega
theorem cnt_flat {a : Int} : ∀ {bx : List (List Int)} {k : Nat} {row row' : List Int}, bx[k]? = some row → (bx.set k row').flatten.count a + row.count a = bx.flatten.count a + row'.count a
  | [], k, _, _, e => by simp at e
  | x :: bx, 0, row, row', e => by
    cases e
    rw [List.set_cons_zero, List.flatten_cons, List.flatten_cons, List.count_append, List.count_append]
    omega
  | x :: bx, k + 1, row, row', e => by
    have := cnt_flat (a := a) (bx := bx) (k := k) (row := row) (row' := row') (by simpa using e)
    rw [List.set_cons_succ, List.flatten_cons, List.flatten_cons, List.count_append, List.count_append]
    omega
theorem stay {cells : List Int} {bx : List (List Int)} {k c b : Nat} {row : List Int} (hc : c < cells.length) (hk : bx[k]? = some row) (hbr : b < row.length) : (cells.set c (row.getD b 0) ++ (bx.set k (row.set b (cells.getD c 0))).flatten).Perm (cells ++ bx.flatten) := by
  refine List.perm_iff_count.mpr fun a => ?_
  rw [List.count_append, List.count_append]
  have h1 := cnt_set (y := row.getD b 0) (a := a) hc
  have h2 := cnt_set (y := cells.getD c 0) (a := a) hbr
  have h3 := cnt_flat (a := a) (row' := row.set b (cells.getD c 0)) hk
  omega
theorem srtI_perm2 {a b : List Int} (p : a.Perm b) : srtI a = srtI b := srtI_of ((srtI_perm a).trans p) (srtI_srt a)
theorem sorted_wp {nums : List Int} {bx : List (List Int)} {Φ : List Int → Prop} (h0 : 0 < bx.length) (h8 : bx.length ≤ 100) (hf : bx.flatten.length ≤ 1000) (hn : nums.length ≤ 1000) (q : Φ (srtI (nums ++ bx.flatten))) : (m_law_sorted nums bx).run Φ := by
  unfold m_law_sorted
  rw [run_bind]
  refine compG_wp (fun _ => true) (fun x => x) (small (by omega)) (fun _ _ Ψ q => by exact q) (fun _ _ _ Ψ q => by exact q) ?_
  rw [List.filter_eq_self.mpr (fun _ _ => rfl), List.map_id', run_guard, run_guard, run_rt]
  exact ⟨⟨h0, by omega⟩, small (by omega), q⟩
theorem eqIO {a b : Int} : eqD a (some b) = decide (a = b) := eqD_dec (α := Int)
theorem eqOO {a b : Int} : eqD (some a) (some b) = decide (a = b) := eqD_dec (α := Int)
theorem inO {a : Int} {l : List Int} : inD (some a) l = decide (a ∈ l) := inD_dec (α := Int)
theorem rng8 : ∀ b : Nat, b < 8 → (rng 0 8).filter (fun x => decide (x = (b : Int))) = [(b : Int)] := by decide
theorem right_wp {cells : List Int} {bx : List (List Int)} {k c b : Nat} {row : List Int} {Φ : Bool → Prop} (hcl : cells.length ≤ 1000) (hbl : bx.length ≤ 100) (hc : c < cells.length) (hk : bx[k]? = some row) (h8 : row.length = 8) (hbr : b < 8) (q : Φ true) : (m_law_right ⟨"swap", (c : Int), some (cells.getD c 0), some (row.getD b 0)⟩ (cells, bx) (cells.set c (row.getD b 0), bx.set k (row.set b (cells.getD c 0))) (k : Int)).run Φ := by
  have hkl := (List.getElem?_eq_some_iff.mp hk).1
  unfold m_law_right
  rw [run_bind, run_rt]
  dsimp only
  rw [run_bind, run_rt, run_bind, run_if, if_neg (by decide), run_bind, run_if, if_neg (by simp; omega), run_bind, run_opt]
  refine ⟨cells.getD c 0, atN hc, ?_⟩
  rw [run_guard, run_rt, eqIO, decide_eq_true rfl, run_rt, run_if, if_neg (by decide), run_bind, run_opt]
  refine ⟨⟨okD_pl _, okD_pl _⟩, row.getD b 0, rfl, ?_⟩
  rw [run_bind]
  refine sti_wp (by omega) (by omega) ?_
  rw [Int.toNat_natCast, run_guard, run_bind, eqD_self, run_if, if_neg (by decide), run_guard, run_bind]
  refine ⟨⟨okD_pl _, okD_pl _⟩, ⟨okD_pl _, okD_pl _⟩, ?_⟩
  have e1 : Z.cut (bx.set k (row.set b (cells.getD c 0))) none (some (k : Int)) = Z.cut bx none (some (k : Int)) := by
    rw [cut_to (by omega), cut_to (by omega), Int.toNat_natCast, List.take_set_of_le (Nat.le_refl _)]
  have e2 : Z.cut (bx.set k (row.set b (cells.getD c 0))) (some ((k : Int) + 1)) none = Z.cut bx (some ((k : Int) + 1)) none := by
    rw [cut_from (by omega), cut_from (by omega), show ((k : Int) + 1).toNat = k + 1 by omega, List.drop_set_of_lt (Nat.lt_succ_self k)]
  rw [e1, eqD_self, run_if, if_neg (by decide), run_guard, run_rt, e2, eqD_self, run_rt, run_if, if_neg (by decide), run_guard, run_bind]
  refine ⟨⟨okD_pl _, okD_pl _⟩, by unfold rngOk; decide, ?_⟩
  have ka : atI bx (k : Int) = some row := atI_nat hk
  have kb : atI (bx.set k (row.set b (cells.getD c 0))) (k : Int) = some (row.set b (cells.getD c 0)) := atI_nat (by rw [List.getElem?_set, if_pos rfl, if_pos hkl])
  refine compG_wp (fun x => decide (x = (b : Int)) && !decide (row.getD b 0 = cells.getD c 0)) (fun x => x) (small (by decide)) (fun x hx Ψ q => ?_) (fun _ _ _ Ψ q => by exact q) ?_
  · have hx' := rng_mem.mp hx
    obtain ⟨j, rfl⟩ : ∃ j : Nat, x = j := ⟨x.toNat, by omega⟩
    simp only [run_bind, run_opt, run_rt, ka, kb, Option.some.injEq, exists_eq_left']
    refine ⟨row.getD j 0, atN (by omega), (row.set b (cells.getD c 0)).getD j 0, atN (by rw [List.length_set]; omega), ?_⟩
    rw [getD_setC]
    by_cases cj : j = b
    · subst cj
      rw [if_pos ⟨rfl, by omega⟩]
      rw [decide_eq_true rfl, Bool.true_and] at q
      exact q
    · rw [if_neg (fun z => cj z.1), decide_eq_true rfl]
      rw [decide_eq_false (by omega), Bool.false_and] at q
      exact q
  rw [List.map_id', run_bind, run_rt, run_guard, run_if, eqD_dec]
  refine ⟨⟨okD_pl _, okD_pl _⟩, ?_⟩
  by_cases ce : row.getD b 0 = cells.getD c 0
  · have en : (rng 0 8).filter (fun x => decide (x = (b : Int)) && !decide (row.getD b 0 = cells.getD c 0)) = [] := by
      rw [decide_eq_true ce]
      exact List.filter_eq_nil_iff.mpr fun x _ => by simp
    rw [en, if_pos (by decide), run_guard, run_bind, eqOO, decide_eq_true ce.symm, run_if, if_pos rfl, run_bind, run_opt]
    refine ⟨⟨okD_pl _, okD_pl _⟩, row, ka, ?_⟩
    rw [run_guard, run_rt, run_rt, inO]
    refine ⟨⟨okD_pl _, okD_pl _⟩, ?_⟩
    have : row.getD b 0 ∈ row := by
      rw [List.getD_eq_getElem?_getD, List.getElem?_eq_getElem (by omega)]
      exact List.getElem_mem _
    rw [decide_eq_true this]
    exact q
  · have en : (rng 0 8).filter (fun x => decide (x = (b : Int)) && !decide (row.getD b 0 = cells.getD c 0)) = [(b : Int)] := by
      rw [decide_eq_false ce, ← rng8 b hbr]
      exact List.filter_congr fun x _ => by simp
    rw [en, if_neg (by simp), run_bind, run_if, if_pos (by simp), run_bind, run_opt]
    refine ⟨row, ka, ?_⟩
    rw [run_bind, run_opt]
    refine ⟨_, at0, ?_⟩
    rw [run_bind, run_opt]
    refine ⟨row.getD b 0, atN (by omega), ?_⟩
    rw [run_guard, run_bind, eqIO, decide_eq_true rfl, run_if, if_pos rfl, run_bind, run_opt]
    refine ⟨⟨okD_pl _, okD_pl _⟩, _, kb, ?_⟩
    rw [run_bind, run_opt]
    refine ⟨_, at0, ?_⟩
    rw [run_bind, run_opt]
    refine ⟨(row.set b (cells.getD c 0)).getD b 0, atN (by rw [List.length_set]; omega), ?_⟩
    rw [getD_setC, if_pos ⟨rfl, by omega⟩, run_guard, run_rt, run_rt, run_rt, eqIO, decide_eq_true rfl]
    exact ⟨⟨okD_pl _, okD_pl _⟩, q⟩
/-! ### the works -/
def bxs (p : PS) : List (List Int) := p.hands.map fun h => h.s.held
section
variable {m B : Nat} {p : PS}
theorem boxes85_wp {Φ : List (List Int) → Prop} (h8 : p.hands.length ≤ 8) (q : Φ (bxs p)) : (m_law_boxes p.tW (p.hands.length : Int)).run Φ := by
  unfold m_law_boxes
  rw [run_guard, run_bind]
  refine ⟨by unfold rngOk; omega, ?_⟩
  refine compG_wp (fun _ => true) (fun k => match p.hands[k.toNat]? with | some h => h.s.held | none => []) (small (by rw [rng_len]; omega)) (fun _ _ Ψ q => by exact q) (fun x hx _ Ψ q => ?_) ?_
  · obtain ⟨x0, x1⟩ := rng_mem.mp hx
    obtain ⟨j, rfl⟩ : ∃ j : Nat, x = j := ⟨x.toNat, by omega⟩
    obtain ⟨h, e⟩ : ∃ h, p.hands[j]? = some h := ⟨_, List.getElem?_eq_getElem (by omega)⟩
    rw [Int.toNat_natCast, e] at q
    rw [run_bind]
    exact boxes_wp e q
  · have e : List.map (fun k : Int => match p.hands[k.toNat]? with | some h => h.s.held | none => []) (List.filter (fun _ => true) (rng 0 (p.hands.length : Int))) = bxs p := by
      rw [List.filter_eq_self.mpr (fun _ _ => rfl)]
      unfold bxs
      apply List.ext_getElem?
      intro j
      rw [List.getElem?_map, List.getElem?_map]
      by_cases hj : j < p.hands.length
      · have : (rng 0 (p.hands.length : Int))[j]? = some (j : Int) := by
          unfold rng
          rw [List.getElem?_map, List.getElem?_range (by omega)]
          simp
        rw [this]
        simp only [Option.map_some, Int.toNat_natCast]
        rw [List.getElem?_eq_getElem hj]
        rfl
      · rw [List.getElem?_eq_none (by rw [rng_len]; omega), List.getElem?_eq_none (by omega)]
        rfl
    rw [e, run_rt]
    exact q
/-- every hand swaps only -/
def AllSw (p : PS) : Prop := ∀ h ∈ p.hands, ∃ a, a ≤ h.s.pos ∧ Sw a h.rows
theorem bxs_flat (o : PSOk m B p) : (bxs p).flatten.length ≤ 64 := by
  have key : ∀ l : List HT, (∀ h ∈ l, h.s.held.length = 8) → (l.map fun h => h.s.held).flatten.length = 8 * l.length := by
    intro l
    induction l with
    | nil => intro _; rfl
    | cons a l ih =>
      intro h
      rw [List.map_cons, List.flatten_cons, List.length_append, ih fun x hx => h x (List.mem_cons_of_mem _ hx), h a List.mem_cons_self, List.length_cons]
      omega
  have := key p.hands fun h hh => (o.hands h hh).hs.held
  have few := o.few
  unfold bxs
  omega
end
theorem law_true {ns : List Int} (hn : ns.length ≤ 63) : (m_law ns).run (fun r => r = true) := by
  unfold m_law
  rw [run_bind]
  refine reel_wp fun r hr => ?_
  rw [run_bind, run_rt, run_bind2]
  refine draw_wp hr (by decide) (by decide) (by decide) fun y r1 y0 y1 h1 => ?_
  dsimp only at y0 y1 ⊢
  obtain ⟨m, em⟩ : ∃ m : Nat, (1 : Int) + y = m := ⟨(1 + y).toNat, by omega⟩
  rw [run_bind, run_rt, em, run_bind2]
  refine draw_wp h1 (by decide) (by decide) (by decide) fun z r2 z0 z1 h2 => ?_
  dsimp only at z0 z1 ⊢
  rw [run_guard, run_bind]
  refine ⟨by unfold rngOk; omega, ?_⟩
  refine compSG_wp (fun j s acc => RlOk (10 + 100 * j) s ∧ ∃ hs : List (Lts × List Rw), acc = hs.map (fun hd => ((hd.1.map ltRow ++ hd.2).map Rw.enc, hb hd.1 (List.replicate 8 0))) ∧ hs.length = j ∧ ∀ hd ∈ hs, Hd m hd) (small (by rw [rng_len]; omega)) ⟨h2.mo (by decide), [], rfl, rfl, by simp⟩ ?_ ?_
  · rintro j x rc acc hx ⟨hc, hs, ea, hl, ho⟩
    subst ea
    have hj := (List.getElem?_eq_some_iff.mp hx).1
    rw [rng_len] at hj
    rw [run_bind2]
    refine hand85_wp hc (by omega) (by omega) (by omega) fun hd rd ok hd' => ?_
    rw [run_rt]
    refine ⟨hd'.mo (by omega), hs ++ [hd], by rw [List.map_append (l₁ := hs)]; rfl, by rw [List.length_append, hl]; rfl, fun w hw => ?_⟩
    rcases List.mem_append.mp hw with h | h
    · exact ho w h
    · rw [List.mem_singleton.mp h]; exact ok
  rintro rc acc ⟨hc, hs, ea, hl, ho⟩
  subst ea
  rw [rng_len] at hl hc
  have l0 : 0 < hs.length := by omega
  have l8 : hs.length ≤ 8 := by omega
  rw [run_bind, run_rt, run_guard, run_bind]
  refine ⟨by unfold rngOk; omega, ?_⟩
  refine compSG_wp (fun j s acc => RlOk (1000 + j) s ∧ acc.length = j ∧ ∀ x ∈ acc, (0 : Int) ≤ x ∧ x < 1000) (small (by rw [rng_len]; omega)) ⟨hc.mo (by omega), rfl, by simp⟩ ?_ ?_
  · rintro j x rc acc hx ⟨hc, ha, oa⟩
    have hj := (List.getElem?_eq_some_iff.mp hx).1
    rw [rng_len] at hj
    rw [run_bind2]
    refine draw_wp hc (by omega) (by decide) (by decide) fun z r3 z0 z1 h3 => ?_
    dsimp only at z0 z1 ⊢
    rw [run_rt]
    refine ⟨h3.mo (by omega), by simp [ha], fun u hu => ?_⟩
    rcases List.mem_append.mp hu with h | h
    · exact oa u h
    · rw [List.mem_singleton.mp h]; exact ⟨z0, z1⟩
  rintro rn nums ⟨hrn, ha, oa⟩
  rw [rng_len] at ha hrn
  dsimp only
  rw [run_bind, run_rt, run_bind]
  refine compG_wp (fun _ => true) (fun x => x.1) (small (by rw [List.length_map]; omega)) (fun _ _ Ψ q => by exact q) (fun _ _ _ Ψ q => by exact q) ?_
  rw [List.filter_eq_self.mpr (fun _ _ => rfl), List.map_map, run_bind]
  have ors : RsOk m (hs.map fun hd => hd.1.map ltRow ++ hd.2) := ⟨by rw [List.length_map]; omega, fun rows hr => by
    obtain ⟨hd, hh, rfl⟩ := List.mem_map.mp hr
    exact (ho hd hh).ok⟩
  have erw : hs.map ((fun x : List PyData × List Int => x.1) ∘ fun hd : Lts × List Rw => ((hd.1.map ltRow ++ hd.2).map Rw.enc, hb hd.1 (List.replicate 8 0))) = (hs.map fun hd => hd.1.map ltRow ++ hd.2).map fun r => r.map Rw.enc := by
    rw [List.map_map]
    rfl
  rw [erw]
  refine init_wp (cells := nums) ors (fun Ψ q => numsS_wp (by omega) oa q) ?_
  have ob : PSOk m 60 (beg nums (hs.map fun hd => hd.1.map ltRow ++ hd.2)) := beg_ok (by omega) ors
  have hln : (beg nums (hs.map fun hd => hd.1.map ltRow ++ hd.2)).hands.length = hs.length := by unfold beg; simp
  have b0 : bxs (beg nums (hs.map fun hd => hd.1.map ltRow ++ hd.2)) = hs.map fun hd => hb hd.1 (List.replicate 8 0) := by
    unfold bxs beg
    dsimp only
    rw [List.map_map, List.map_map]
    refine List.map_congr_left fun hd hh => ?_
    have o := ho hd hh
    exact (led_lets o.sw hd.1.length 0 60 (List.replicate 8 0) (Nat.sub_zero _) (Nat.zero_le _) (by have := o.l8; omega)).1
  have sw0 : AllSw (beg nums (hs.map fun hd => hd.1.map ltRow ++ hd.2)) := by
    intro h hh
    unfold beg at hh
    dsimp only at hh
    rw [List.map_map] at hh
    obtain ⟨hd, hm, rfl⟩ := List.mem_map.mp hh
    have o := ho hd hm
    exact ⟨hd.1.length, (led_lets o.sw hd.1.length 0 60 (List.replicate 8 0) (Nat.sub_zero _) (Nat.zero_le _) (by have := o.l8; omega)).2, o.sw⟩
  have pc : (beg nums (hs.map fun hd => hd.1.map ltRow ++ hd.2)).cells = nums := rfl
  have pp : (beg nums (hs.map fun hd => hd.1.map ltRow ++ hd.2)).past = [] := rfl
  generalize beg nums (hs.map fun hd => hd.1.map ltRow ++ hd.2) = p at ob hln b0 sw0 pc pp
  rw [run_bind, run_rt, run_bind]
  refine cells_wp ?_
  rw [List.length_map, ← hln, run_bind]
  refine boxes85_wp ob.few ?_
  rw [run_bind, run_rt, run_bind]
  refine compG_wp (fun _ => true) (fun x => x.2) (small (by rw [List.length_map]; omega)) (fun _ _ Ψ q => by exact q) (fun _ _ _ Ψ q => by exact q) ?_
  rw [List.filter_eq_self.mpr (fun _ _ => rfl), List.map_map, run_guard, run_if]
  have eb : hs.map ((fun x : List PyData × List Int => x.2) ∘ fun hd : Lts × List Rw => ((hd.1.map ltRow ++ hd.2).map Rw.enc, hb hd.1 (List.replicate 8 0))) = bxs p := by
    rw [b0]
    rfl
  rw [eb, pc, eqD_self, if_neg (by decide), run_bind]
  refine ⟨⟨okD_pl _, okD_pl _⟩, ?_⟩
  have bl : ∀ q : PS, (bxs q).length = q.hands.length := fun q => by unfold bxs; rw [List.length_map]
  refine sorted_wp (by rw [bl]; omega) (by rw [bl]; omega) (by have := bxs_flat ob; dsimp only; omega) (by show nums.length ≤ 1000; omega) ?_
  rw [run_bind, run_rt, run_guard, run_bind]
  refine ⟨by unfold rngOk; split <;> omega, ?_⟩
  refine forC_wp (fun i (s : WReel × ObWorks × (List Int × List (List Int))) => ∃ q : PS, PSOk m (60 + 60 * i) q ∧ AllSw q ∧ q.hands.length = p.hands.length ∧ q.past.length = i ∧ s.2.1 = q.tW ∧ s.2.2 = (q.cells, bxs q) ∧ srtI (q.cells ++ (bxs q).flatten) = srtI (nums ++ (bxs p).flatten) ∧ RlOk (2000 + i) s.1) ⟨p, ob, sw0, rfl, by rw [pp]; rfl, rfl, by rw [pc], by rw [pc], hrn.mo (by omega)⟩ ?_ (fun _ _ => rfl)
  rintro i x ⟨ra, wk, bf⟩ hx ⟨q, o, sw, hq, hp, e1, e2, es, hra⟩
  dsimp only at e1 e2 hra
  subst e1 e2
  have hi := (List.getElem?_eq_some_iff.mp hx).1
  rw [rng_len] at hi
  have hi' : i < 90 := by split at hi <;> omega
  have few := o.few
  unfold m_law_L1
  rw [List.length_map, ← hln, ← hq, run_guard, run_bind]
  refine ⟨by unfold rngOk; omega, ?_⟩
  refine compG_wp (fun k => match q.hands[k.toNat]? with | some h => decide (h.way = "waits") | none => false) (fun k => k) (small (by rw [rng_len]; omega)) (fun x hx Ψ q' => ?_) (fun _ _ _ Ψ q => by exact q) ?_
  · obtain ⟨x0, x1⟩ := rng_mem.mp hx
    obtain ⟨j, rfl⟩ : ∃ j : Nat, x = j := ⟨x.toNat, by omega⟩
    obtain ⟨h, e⟩ : ∃ h, q.hands[j]? = some h := ⟨_, List.getElem?_eq_getElem (by omega)⟩
    rw [Int.toNat_natCast, e] at q'
    rw [run_bind]
    exact how_wp e q'
  rw [List.map_id', run_bind, run_rt, run_guard, run_if, eqD_dec]
  refine ⟨⟨okD_pl _, okD_pl _⟩, ?_⟩
  generalize ew : (rng 0 (q.hands.length : Int)).filter (fun k => match q.hands[k.toNat]? with | some h => decide (h.way = "waits") | none => false) = wl
  have wlen : wl.length ≤ 8 := by
    rw [← ew]
    refine Nat.le_trans (List.length_filter_le _ _) ?_
    rw [rng_len]; omega
  by_cases c : wl = []
  · rw [if_pos (by simpa using c), run_rt]
    show true = true
    rfl
  rw [if_neg (by simpa using c), run_bind2]
  have w0 : 0 < wl.length := List.length_pos_iff.mpr c
  refine draw_wp hra (by omega) (by omega) (by omega) fun d rb d0 d1 hbb => ?_
  dsimp only at d0 d1 ⊢
  obtain ⟨d, rfl⟩ : ∃ j : Nat, d = j := ⟨d.toNat, by omega⟩
  obtain ⟨y, ey⟩ : ∃ y, wl[d]? = some y := ⟨_, List.getElem?_eq_getElem (by omega)⟩
  have ym := List.mem_of_getElem? ey
  rw [← ew] at ym
  obtain ⟨ym1, ym2⟩ := List.mem_filter.mp ym
  have yr := rng_mem.mp ym1
  obtain ⟨k, rfl⟩ : ∃ k : Nat, y = k := ⟨y.toNat, by omega⟩
  obtain ⟨h, eh⟩ : ∃ h, q.hands[k]? = some h := ⟨_, List.getElem?_eq_getElem (by omega)⟩
  rw [Int.toNat_natCast, eh] at ym2
  have hw : h.way = "waits" := by simpa using ym2
  have hm := List.mem_of_getElem? eh
  obtain ⟨rw_, hrw, ow⟩ := (o.hands h hm).wt hw
  obtain ⟨a, ha1, ha2⟩ := sw h hm
  have sr := ha2 h.s.pos rw_ ha1 hrw
  have rok := (o.hands h hm).rows.2 rw_ (List.mem_of_getElem? hrw)
  have h8 : h.s.held.length = 8 := (o.hands h hm).hs.held
  obtain ⟨b, cl, rfl⟩ : ∃ b cl, rw_ = .swap b cl (.one (.box b)) := by
    cases rw_ with
    | swap b cl w => exact ⟨b, cl, by rw [show w = .one (.box b) from sr]⟩
    | go t => cases ow
    | «unless» lt w w' t => cases ow
    | _ => cases sr
  obtain ⟨rb8, rcl, _⟩ := rok
  rw [run_bind, run_opt]
  refine ⟨(k : Int), atI_nat ey, ?_⟩
  rw [run_bind, run_rt, run_bind2]
  refine turn_wp o (by omega) (by omega) eh hw hrw ow ?_
  dsimp only
  have o' := o.next eh hrw
  have lh := led_held ha2 (f := 60) (s := (tch q.cells h.s (.swap b cl (.one (.box b)))).2.1) (Nat.le_succ_of_le ha1)
  have nb : bxs (q.next k h (.swap b cl (.one (.box b)))) = (bxs q).set k (h.s.held.set b (q.cells.getD cl 0)) := by
    unfold bxs PS.next
    dsimp only
    rw [List.map_set]
    congr 1
    exact lh.1
  have nc : (q.next k h (.swap b cl (.one (.box b)))).cells = q.cells.set cl (h.s.held.getD b 0) := rfl
  have hk : (bxs q)[k]? = some h.s.held := by unfold bxs; rw [List.getElem?_map, eh]; rfl
  have hnl : (q.next k h (.swap b cl (.one (.box b)))).hands.length = q.hands.length := next_hands
  have qc := o.cells
  rw [run_bind, run_rt, run_bind]
  refine cells_wp ?_
  rw [← hnl, run_bind]
  refine boxes85_wp o'.few ?_
  rw [run_bind, run_rt, nb, nc, run_bind]
  have hbl := bl q
  refine right_wp (by omega) (by omega) (by omega) hk h8 rb8 ?_
  rw [run_bind, run_if, if_neg (by decide), run_bind]
  have stp_ := stay (cells := q.cells) (bx := bxs q) (k := k) (c := cl) (b := b) (by omega) hk (by omega)
  have fl := bxs_flat o'
  rw [nb] at fl
  refine sorted_wp (by dsimp only; rw [List.length_set]; omega) (by dsimp only; rw [List.length_set]; omega) (by dsimp only; omega) (by dsimp only; rw [List.length_set]; omega) ?_
  have es' : srtI (q.cells.set cl (h.s.held.getD b 0) ++ ((bxs q).set k (h.s.held.set b (q.cells.getD cl 0))).flatten) = srtI (nums ++ (bxs p).flatten) := (srtI_perm2 stp_).trans es
  dsimp only
  rw [run_guard, run_rt, es', eqD_self, run_if, if_neg (by decide), run_bind, run_rt, run_rt]
  refine ⟨⟨okD_pl _, okD_pl _⟩, q.next k h (.swap b cl (.one (.box b))), o'.mo (by omega), fun x hx => ?_, rfl, by rw [next_past, hp], rfl, by rw [nb, nc], by rw [nb, nc]; exact es', hbb.mo (by omega)⟩
  rcases List.mem_or_eq_of_mem_set hx with hx | rfl
  · exact sw x hx
  · exact ⟨a, lh.2, ha2⟩
end M

namespace M
open PySem L2 Z
section
def topS (i : Nat) : Stmt := PySem.Challenge.pw_fewnotes_k85_whole_swapped_numbers_stay.main.body.getD i (.Pass ⟨0, 0, 0, 0⟩)
variable {P : Program} {w : World} {K : PySem.W.Frag} {mg : Str → Option Value} {base : Heap} {cl : Nat → Addr}
def sp_Hand___init__ (K : PySem.W.Frag) (cl : Nat → Addr) : Sp := fun vs H Q E => ∃ (amb : Grp) (Ho : Hp) (a dx C : Addr) (v1 : V) (x1 : (List PyData)), vs = [.ref a, v1] ∧ Zs ([(a, HO.ins C dx (ns_Hand.zip []))] ++ amb) H Ho ∧ PySem.W.nsIn K mainGlobals "Hand" = some (some (.ref C)) ∧ LV K amb Ho v1 x1 ∧ (m_Hand___init__ x1).run fun r => ∀ g H' Ho', Same Ho Ho' → Zs (g ++ amb) H' Ho' → OC_Hand K Ho' (.ref a) r g → Q .non H'
abbrev s_Hand___init__ : Stmt := inClass (topS 10) 0
theorem sc_Hand___init__ : FnScope ["self", "rows"] ["self", "rows"] (defScope s_Hand___init__) := ⟨rfl, rfl, rfl, by decide +kernel, rfl, by decide +kernel, by decide +kernel⟩
theorem ok_Hand___init__ {f : Addr} {fd : FuncData} (F : Fun K "__init__" "Hand.__init__" s_Hand___init__ f fd) {q_Hand : Addr} (m_list : mg "list" = none) (m_len : mg "len" = none) {tk_LETTERS : Tok} (g_LETTERS : mg "LETTERS" = some (.str ("abcdefgh" : Str) tk_LETTERS)) (cf_Hand : CF K q_Hand "Hand" ns_Hand) :
    FnOk P w K mg base CX0 1 f fd ["self", "rows"] (sp_Hand___init__ K cl) := by
  refine F.ok sc_Hand___init__ (fun vs H Q E h => ?_) (fun cdv A outer s H vs Q E hr h => ?_)
  · obtain ⟨amb, Ho, a_self, dx_self, C0, v_rows_, rows_, rfl, _⟩ := h
    rfl
  · obtain ⟨amb, Ho, a_self, dx_self, C0, v_rows_, rows_, rfl, z, hC, d_rows_, hw⟩ := h
    refine ⟨_, pss_cons (zps_fld (K := K) rfl (pv 0) (pe_callTy (zlist (K := K) rfl) (by rfl) m_list (by decide +kernel) (pa_cons (pv 1) (pa_nil))) rfl) (pss_cons (zps_fld (K := K) rfl (pv 0) (pe_int) rfl) (pss_cons (zps_fld (K := K) rfl (pv 0) (pe_op op_rep (pe_lst (pa_cons (pe_int) (pa_nil))) (pe_callB zlenS (by rfl) m_len (by decide +kernel) (pa_cons (pe_glob (v := .str ("abcdefgh" : Str)) rfl g_LETTERS ⟨_, rfl⟩) (pa_nil)))) rfl) (pss_cons (zps_fld (K := K) rfl (pv 0) (pe_lst (pa_nil)) rfl) (pss_cons (zps_fld (K := K) rfl (pv 0) (pe_str) rfl) (pss_nil))))), ?_⟩
    obtain rfl := cf_Hand.eq hC
    replace z : Zs ([(a_self, HO.ins q_Hand dx_self (ns_Hand.zip []))] ++ amb) H Ho := z
    refine y_sfld ?_
    refine y_cb ?_
    refine y_cons ?_
    refine y_var rfl ?_
    refine y_nil ?_
    refine y_list (LV.sub d_rows_ (mgS mgE)) z (fun H p1 ws2 z d3 => ?_)
    replace z : Zs ([(p1, HO.lst ws2)] ++ ([(a_self, HO.ins q_Hand dx_self (ns_Hand.zip []))] ++ amb)) H Ho := z
    have o4 := OL.mk (p := p1) d3
    refine l_fr o4 z (fun Ho e z d5 => ?_)
    have es6 := (Same.refl _).trans e
    refine l_d (K := K) (Ho := Ho) hw d5 (fun self__rows_ v_self__rows_ d_self__rows_ hw => ?_)
    refine y_var rfl ?_
    refine o_nfld cf_Hand z rfl (fun H z => ?_)
    replace z : Zs ([(a_self, HO.ins q_Hand dx_self (ns_Hand.zip [v_self__rows_]))] ++ amb) H Ho := z
    refine y_sfld ?_
    refine y_c ?_
    refine l_i hw (fun self__at_ hw => ?_)
    refine y_var rfl ?_
    refine o_nfld cf_Hand z rfl (fun H z => ?_)
    replace z : Zs ([(a_self, HO.ins q_Hand dx_self (ns_Hand.zip [v_self__rows_, (V.int self__at_)]))] ++ amb) H Ho := z
    refine y_sfld ?_
    refine y_op ?_
    refine k_lst ?_
    refine y_cons ?_
    refine y_c ?_
    refine y_nil ?_
    refine k_lstk (K := K) (xs := ([(0 : Int)] : (List Int))) z (DqAll.cons (Dq.int _) DqAll.nil) (by show 1 ≤ sizeLine; decide) (fun H p7 ws8 z d9 => ?_)
    replace z : Zs ([(p7, HO.lst ws8)] ++ ([(a_self, HO.ins q_Hand dx_self (ns_Hand.zip [v_self__rows_, (V.int self__at_)]))] ++ amb)) H Ho := z
    have o10 := OL.mk (p := p7) d9
    refine y_cb ?_
    refine y_cons ?_
    refine y_c ?_
    refine y_nil ?_
    refine y_lenStr hw.1 ?_
    replace hw := (run_gd hw).2
    refine y_rep z d9 hw.1 (fun H p11 ws12 z d13 => ?_)
    replace hw := (run_gd hw).2
    replace z : Zs ([(p11, HO.lst ws12)] ++ ([(a_self, HO.ins q_Hand dx_self (ns_Hand.zip [v_self__rows_, (V.int self__at_)]))] ++ amb)) H Ho := z
    have o14 := OL.mk (p := p11) d13
    refine l_oG (P := fun v x g => OL K Ho v x g) hw z o14 (fun self__held_ v_self__held_ g_self__held_ z d_self__held_ hw => ?_)
    refine y_var rfl ?_
    replace z : Zs ([(a_self, HO.ins q_Hand dx_self (ns_Hand.zip [v_self__rows_, (V.int self__at_)]))] ++ (g_self__held_ ++ amb)) _ _ := z.go [g_self__held_, [(a_self, HO.ins q_Hand dx_self (ns_Hand.zip [v_self__rows_, (V.int self__at_)]))]] amb [1, 0]
    refine o_nfld cf_Hand z rfl (fun H z => ?_)
    replace z : Zs ([(a_self, HO.ins q_Hand dx_self (ns_Hand.zip [v_self__rows_, (V.int self__at_), v_self__held_]))] ++ (g_self__held_ ++ amb)) H Ho := z
    refine y_sfld ?_
    refine k_lst ?_
    refine y_nil ?_
    refine k_lstk (K := K) (xs := ([] : (List Int))) z DqAll.nil (by show 0 ≤ sizeLine; decide) (fun H p15 ws16 z d17 => ?_)
    replace z : Zs ([(p15, HO.lst ws16)] ++ ([(a_self, HO.ins q_Hand dx_self (ns_Hand.zip [v_self__rows_, (V.int self__at_), v_self__held_]))] ++ (g_self__held_ ++ amb))) H Ho := z
    have o18 := OL.mk (p := p15) d17
    refine l_oG (P := fun v x g => OL K Ho v x g) hw z o18 (fun self__spoken_ v_self__spoken_ g_self__spoken_ z d_self__spoken_ hw => ?_)
    refine y_var rfl ?_
    replace z : Zs ([(a_self, HO.ins q_Hand dx_self (ns_Hand.zip [v_self__rows_, (V.int self__at_), v_self__held_]))] ++ (g_self__spoken_ ++ (g_self__held_ ++ amb))) _ _ := z.go [g_self__spoken_, [(a_self, HO.ins q_Hand dx_self (ns_Hand.zip [v_self__rows_, (V.int self__at_), v_self__held_]))], g_self__held_] amb [1, 0, 2]
    refine o_nfld cf_Hand z rfl (fun H z => ?_)
    replace z : Zs ([(a_self, HO.ins q_Hand dx_self (ns_Hand.zip [v_self__rows_, (V.int self__at_), v_self__held_, v_self__spoken_]))] ++ (g_self__spoken_ ++ (g_self__held_ ++ amb))) H Ho := z
    refine y_sfld ?_
    refine y_c ?_
    refine l_s hw (fun self__way_ hw => ?_)
    refine y_var rfl ?_
    refine o_nfld cf_Hand z rfl (fun H z => ?_)
    replace z : Zs ([(a_self, HO.ins q_Hand dx_self (ns_Hand.zip [v_self__rows_, (V.int self__at_), v_self__held_, v_self__spoken_, (V.str self__way_)]))] ++ (g_self__spoken_ ++ (g_self__held_ ++ amb))) H Ho := z
    replace z : Zs ([(a_self, HO.ins q_Hand dx_self (ns_Hand.zip [v_self__rows_, (V.int self__at_), v_self__held_, v_self__spoken_, (V.str self__way_)]))] ++ (g_self__held_ ++ (g_self__spoken_ ++ amb))) _ _ := z.go [[(a_self, HO.ins q_Hand dx_self (ns_Hand.zip [v_self__rows_, (V.int self__at_), v_self__held_, v_self__spoken_, (V.str self__way_)]))], g_self__spoken_, g_self__held_] amb [0, 2, 1]
    refine OC_Hand.cl (x := (⟨self__rows_, self__at_, self__held_, self__spoken_, self__way_⟩ : ObHand)) cf_Hand d_self__rows_ (Dq.int _) d_self__held_ d_self__spoken_ (Dq.str _) z (fun g19 d20 z => ?_)
    exact (run_ret hw) _ _ _ es6 z d20
def sp_worth_now_R (n : Nat) (K : PySem.W.Frag) (cl : Nat → Addr) : Sp := fun vs H Q E => ∃ (amb : Grp) (Ho : Hp) (v0 : V) (x0 : (List Int)) (v1 : V) (x1 : PyData), vs = [v0, v1] ∧ Zs amb H Ho ∧ LV K amb Ho v0 x0 ∧ Z.D K Ho v1 x1 ∧ (m_worth_now_R n x0 x1).run fun r => ∀ v H' Ho', Same Ho Ho' → Zs amb H' Ho' → Z.D K Ho' v r → Q v H'
abbrev s_worth_now : Stmt := topS 11
theorem sc_worth_now : FnScope ["held", "told"] ["held", "told"] (defScope s_worth_now) := ⟨rfl, rfl, rfl, by decide +kernel, rfl, by decide +kernel, by decide +kernel⟩
theorem ok_worth_now_S {f : Addr} {fd : FuncData} (F : Fun K "worth_now" "worth_now" s_worth_now f fd) {n : Nat} (c_worth_now : Cal P w K mg base CX0 "worth_now" ["held", "told"] (1 + n) (sp_worth_now_R n K cl) f fd) {tk_LETTERS : Tok} (g_LETTERS : mg "LETTERS" = some (.str ("abcdefgh" : Str) tk_LETTERS)) {tk_ROUND : Tok} (g_ROUND : mg "ROUND" = some (.int 1000 tk_ROUND)) :
    FnOk P w K mg base CX0 (1 + n + 1) f fd ["held", "told"] (sp_worth_now_R (n + 1) K cl) := by
  refine F.ok sc_worth_now (fun vs H Q E h => ?_) (fun cdv A outer s H vs Q E hr h => ?_)
  · obtain ⟨amb, Ho, v_held_, held_, v_told_, told_, rfl, _⟩ := h
    rfl
  · obtain ⟨amb, Ho, v_held_, held_, v_told_, told_, rfl, z, d_held_, d_told_, hw⟩ := h
    refine ⟨_, pss_cons (ps_if (pt_cmpR (zop_eqD (K := K) rfl hr.units) (pe_ix (zix_any (K := K) rfl) (pv 1) (pe_int) (fun _ _ => rfl)) (pe_str) (nomark _)) (pss_cons (ps_ret (pe_ix (zix_any (K := K) rfl) (pv 1) (pe_int) (fun _ _ => rfl))) (pss_nil)) (pss_nil)) (pss_cons (ps_if (pt_cmpR (zop_eqD (K := K) rfl hr.units) (pe_ix (zix_any (K := K) rfl) (pv 1) (pe_int) (fun _ _ => rfl)) (pe_str) (nomark _)) (pss_cons (ps_ret (pe_ix (zix_list (K := K) rfl) (pv 0) (pe_m1 PySem.F.slot_str_index PySem.F.type_str_index zmt_sindex (pe_glob (v := .str ("abcdefgh" : Str)) rfl g_LETTERS ⟨_, rfl⟩) (pe_ix (zix_any (K := K) rfl) (pv 1) (pe_int) (fun _ _ => rfl))) (fun _ _ => rfl))) (pss_nil)) (pss_nil)) (pss_cons (ps_if (pt_cmpR (zop_eqD (K := K) rfl hr.units) (pe_ix (zix_any (K := K) rfl) (pv 1) (pe_int) (fun _ _ => rfl)) (pe_str) (nomark _)) (pss_cons (ps_ret (pe_op op_mod (pe_op op_add (pe_call c_worth_now.ok (hr.mono (by omega)) (by rfl) c_worth_now.g c_worth_now.kp c_worth_now.b .nil pass0 (pa_cons (pv 0) (pa_cons (pe_ix (zix_any (K := K) rfl) (pv 1) (pe_int) (fun _ _ => rfl)) (pa_nil)))) (pe_call c_worth_now.ok (hr.mono (by omega)) (by rfl) c_worth_now.g c_worth_now.kp c_worth_now.b .nil pass0 (pa_cons (pv 0) (pa_cons (pe_ix (zix_any (K := K) rfl) (pv 1) (pe_int) (fun _ _ => rfl)) (pa_nil))))) (pe_glob (v := .int 1000) rfl g_ROUND ⟨_, rfl⟩))) (pss_nil)) (pss_nil)) (pss_cons (ps_ret (pe_op op_mod (pe_op op_sub (pe_call c_worth_now.ok (hr.mono (by omega)) (by rfl) c_worth_now.g c_worth_now.kp c_worth_now.b .nil pass0 (pa_cons (pv 0) (pa_cons (pe_ix (zix_any (K := K) rfl) (pv 1) (pe_int) (fun _ _ => rfl)) (pa_nil)))) (pe_call c_worth_now.ok (hr.mono (by omega)) (by rfl) c_worth_now.g c_worth_now.kp c_worth_now.b .nil pass0 (pa_cons (pv 0) (pa_cons (pe_ix (zix_any (K := K) rfl) (pv 1) (pe_int) (fun _ _ => rfl)) (pa_nil))))) (pe_glob (v := .int 1000) rfl g_ROUND ⟨_, rfl⟩))) (pss_nil)))), ?_⟩
    refine y_ifS ?_
    refine y_test ?_
    refine y_op ?_
    refine y_op ?_
    refine y_var rfl ?_
    refine y_c ?_
    refine y_ixP d_told_ z hw (fun t1 w d2 hw => ?_)
    refine y_c ?_
    refine y_eqD (D.mo d2 z.le) (Dq.str _) hw.1 ?_
    replace hw := (run_gd hw).2
    refine ⟨_, rfl, ?_⟩
    refine y_cases hw (fun hb hw => ?_) (fun hb hw => ?_)
    · refine y_ret ?_
      refine y_op ?_
      refine y_var rfl ?_
      refine y_c ?_
      refine y_ixP d_told_ z hw (fun t3 w d4 hw => ?_)
      refine y_fr (β := Int) d4 hw (fun t5 d6 hw => ?_)
      obtain rfl := d_int d6
      exact (run_ret hw) _ _ _ (Same.refl _) z (Dq.int _)
    · refine y_nxS ?_
      refine y_ifS ?_
      refine y_test ?_
      refine y_op ?_
      refine y_op ?_
      refine y_var rfl ?_
      refine y_c ?_
      refine y_ixP d_told_ z hw (fun t7 w d8 hw => ?_)
      refine y_c ?_
      refine y_eqD (D.mo d8 z.le) (Dq.str _) hw.1 ?_
      replace hw := (run_gd hw).2
      refine ⟨_, rfl, ?_⟩
      refine y_cases hw (fun hb hw => ?_) (fun hb hw => ?_)
      · refine y_ret ?_
        refine y_op ?_
        refine y_var rfl ?_
        refine y_tm1 ?_
        refine y_c ?_
        refine y_tm1s ?_
        refine y_op ?_
        refine y_var rfl ?_
        refine y_c ?_
        refine y_ixP d_told_ z hw (fun t9 w d10 hw => ?_)
        refine y_fr (β := Str) d10 hw (fun t11 d12 hw => ?_)
        obtain rfl := d_str d12
        refine y_sindex hw (fun t13 hw => ?_)
        refine y_ixL (LV.sub d_held_ mgE) z hw (fun t14 w d15 hw => ?_)
        obtain rfl := d_int d15
        exact (run_ret hw) _ _ _ (Same.refl _) z (Dq.int _)
      · refine y_nxS ?_
        refine y_ifS ?_
        refine y_test ?_
        refine y_op ?_
        refine y_op ?_
        refine y_var rfl ?_
        refine y_c ?_
        refine y_ixP d_told_ z hw (fun t16 w d17 hw => ?_)
        refine y_c ?_
        refine y_eqD (D.mo d17 z.le) (Dq.str _) hw.1 ?_
        replace hw := (run_gd hw).2
        refine ⟨_, rfl, ?_⟩
        refine y_cases hw (fun hb hw => ?_) (fun hb hw => ?_)
        · refine y_ret ?_
          refine y_op ?_
          refine y_op ?_
          refine y_call ?_
          refine y_cons ?_
          refine y_var rfl ?_
          refine y_cons ?_
          refine y_op ?_
          refine y_var rfl ?_
          refine y_c ?_
          refine y_ixP d_told_ z hw (fun t18 w d19 hw => ?_)
          refine y_nil ?_
          refine ⟨amb, _, _, _, _, _, rfl, z, (LV.sub d_held_ mgE), d19, ?_⟩
          refine run_mono3 hw (fun t20 hw v H Ho e z d21 => ?_)
          replace d_held_ := LV.mo d_held_ e
          replace d_told_ := D.mo d_told_ e
          have es23 := (Same.refl _).trans e
          obtain rfl := d_int d21
          refine y_call ?_
          refine y_cons ?_
          refine y_var rfl ?_
          refine y_cons ?_
          refine y_op ?_
          refine y_var rfl ?_
          refine y_c ?_
          refine y_ixP d_told_ z hw (fun t24 w d25 hw => ?_)
          refine y_nil ?_
          refine ⟨amb, _, _, _, _, _, rfl, z, (LV.sub d_held_ mgE), d25, ?_⟩
          refine run_mono3 hw (fun t26 hw v H Ho e z d27 => ?_)
          replace d_held_ := LV.mo d_held_ e
          replace d_told_ := D.mo d_told_ e
          have es29 := es23.trans e
          obtain rfl := d_int d27
          refine y_i0 ?_
          refine y_c ?_
          refine y_ig hw.1 ?_
          replace hw := (run_gd hw).2
          exact (run_ret hw) _ _ _ es29 z (Dq.int _)
        · refine y_nxS ?_
          refine y_ret ?_
          refine y_op ?_
          refine y_op ?_
          refine y_call ?_
          refine y_cons ?_
          refine y_var rfl ?_
          refine y_cons ?_
          refine y_op ?_
          refine y_var rfl ?_
          refine y_c ?_
          refine y_ixP d_told_ z hw (fun t30 w d31 hw => ?_)
          refine y_nil ?_
          refine ⟨amb, _, _, _, _, _, rfl, z, (LV.sub d_held_ mgE), d31, ?_⟩
          refine run_mono3 hw (fun t32 hw v H Ho e z d33 => ?_)
          replace d_held_ := LV.mo d_held_ e
          replace d_told_ := D.mo d_told_ e
          have es35 := (Same.refl _).trans e
          obtain rfl := d_int d33
          refine y_call ?_
          refine y_cons ?_
          refine y_var rfl ?_
          refine y_cons ?_
          refine y_op ?_
          refine y_var rfl ?_
          refine y_c ?_
          refine y_ixP d_told_ z hw (fun t36 w d37 hw => ?_)
          refine y_nil ?_
          refine ⟨amb, _, _, _, _, _, rfl, z, (LV.sub d_held_ mgE), d37, ?_⟩
          refine run_mono3 hw (fun t38 hw v H Ho e z d39 => ?_)
          replace d_held_ := LV.mo d_held_ e
          replace d_told_ := D.mo d_told_ e
          have es41 := es35.trans e
          obtain rfl := d_int d39
          refine y_i0 ?_
          refine y_c ?_
          refine y_ig hw.1 ?_
          replace hw := (run_gd hw).2
          exact (run_ret hw) _ _ _ es41 z (Dq.int _)
abbrev sp_worth_now (K : PySem.W.Frag) (cl : Nat → Addr) : Sp := sp_worth_now_R 3 K cl
theorem ok_worth_now {f : Addr} {fd : FuncData} (F : Fun K "worth_now" "worth_now" s_worth_now f fd) (g : mg "worth_now" = some (.ref f)) (kp : PySem.W.keepIn K (.ref f) = true) (b : Binds K fd ["held", "told"] []) {tk_LETTERS : Tok} (g_LETTERS : mg "LETTERS" = some (.str ("abcdefgh" : Str) tk_LETTERS)) {tk_ROUND : Tok} (g_ROUND : mg "ROUND" = some (.int 1000 tk_ROUND)) :
    FnOk P w K mg base CX0 4 f fd ["held", "told"] (sp_worth_now K cl) := by
  have key : ∀ n, FnOk P w K mg base CX0 (1 + n) f fd ["held", "told"] (sp_worth_now_R n K cl) := fun n => by
    induction n with
    | zero => exact ⟨fun vs H Q E h => by obtain ⟨amb, Ho, v_held_, held_, v_told_, told_, rfl, z, d_held_, d_told_, hw⟩ := h; exact (show False from hw).elim, fun A outer s H args us vs Q E hr he hb hv h => by obtain ⟨amb, Ho, v_held_, held_, v_told_, told_, rfl, z, d_held_, d_told_, hw⟩ := h; exact (show False from hw).elim⟩
    | succ n ih => exact ok_worth_now_S F ⟨ih, g, kp, b⟩ g_LETTERS g_ROUND
  exact key 3
def sp_is_so (K : PySem.W.Frag) (cl : Nat → Addr) : Sp := fun vs H Q E => ∃ (amb : Grp) (Ho : Hp) (v0 : V) (x0 : (List Int)) (v1 : V) (x1 : Str) (v2 : V) (x2 : PyData) (v3 : V) (x3 : PyData), vs = [v0, v1, v2, v3] ∧ Zs amb H Ho ∧ LV K amb Ho v0 x0 ∧ Z.D K Ho v1 x1 ∧ Z.D K Ho v2 x2 ∧ Z.D K Ho v3 x3 ∧ (m_is_so x0 x1 x2 x3).run fun r => ∀ v H' Ho', Same Ho Ho' → Zs amb H' Ho' → Z.D K Ho' v r → Q v H'
abbrev s_is_so : Stmt := topS 12
theorem sc_is_so : FnScope ["held", "sign", "one", "other"] ["held", "sign", "one", "other"] (defScope s_is_so) := ⟨rfl, rfl, rfl, by decide +kernel, rfl, by decide +kernel, by decide +kernel⟩
theorem ok_is_so {f : Addr} {fd : FuncData} (F : Fun K "is_so" "is_so" s_is_so f fd) {f_worth_now : Addr} {fd_worth_now : FuncData} (c_worth_now : Cal P w K mg base CX0 "worth_now" ["held", "told"] 4 (sp_worth_now K cl) f_worth_now fd_worth_now) :
    FnOk P w K mg base CX0 5 f fd ["held", "sign", "one", "other"] (sp_is_so K cl) := by
  refine F.ok sc_is_so (fun vs H Q E h => ?_) (fun cdv A outer s H vs Q E hr h => ?_)
  · obtain ⟨amb, Ho, v_held_, held_, v_sign_, sign_, v_one_, one_, v_other_, other_, rfl, _⟩ := h
    rfl
  · obtain ⟨amb, Ho, v_held_, held_, v_sign_, sign_, v_one_, one_, v_other_, other_, rfl, z, d_held_, d_sign_, d_one_, d_other_, hw⟩ := h
    refine ⟨_, pss_cons (ps_if (pt_cmpR (op_eq) (pv 1) (pe_str) (nomark _)) (pss_cons (ps_ret (pe_cmpR (op_eq) (pe_call c_worth_now.ok (hr.mono (by decide)) (by rfl) c_worth_now.g c_worth_now.kp c_worth_now.b .nil pass0 (pa_cons (pv 0) (pa_cons (pv 2) (pa_nil)))) (pe_call c_worth_now.ok (hr.mono (by decide)) (by rfl) c_worth_now.g c_worth_now.kp c_worth_now.b .nil pass0 (pa_cons (pv 0) (pa_cons (pv 3) (pa_nil)))) (nomark _))) (pss_nil)) (pss_nil)) (pss_cons (ps_ret (pe_cmpR (op_lt) (pe_call c_worth_now.ok (hr.mono (by decide)) (by rfl) c_worth_now.g c_worth_now.kp c_worth_now.b .nil pass0 (pa_cons (pv 0) (pa_cons (pv 2) (pa_nil)))) (pe_call c_worth_now.ok (hr.mono (by decide)) (by rfl) c_worth_now.g c_worth_now.kp c_worth_now.b .nil pass0 (pa_cons (pv 0) (pa_cons (pv 3) (pa_nil)))) (nomark _))) (pss_nil)), ?_⟩
    obtain rfl := d_str d_sign_
    refine y_ifS ?_
    refine y_test ?_
    refine y_op ?_
    refine y_var rfl ?_
    refine y_c ?_
    refine y_eqs ?_
    refine ⟨_, rfl, ?_⟩
    refine y_cases hw (fun hb hw => ?_) (fun hb hw => ?_)
    · refine y_ret ?_
      refine y_op ?_
      refine y_call ?_
      refine y_cons ?_
      refine y_var rfl ?_
      refine y_cons ?_
      refine y_var rfl ?_
      refine y_nil ?_
      refine ⟨amb, _, _, _, _, _, rfl, z, (LV.sub d_held_ mgE), d_one_, ?_⟩
      refine run_mono3 hw (fun t1 hw v H Ho e z d2 => ?_)
      replace d_held_ := LV.mo d_held_ e
      replace d_one_ := D.mo d_one_ e
      replace d_other_ := D.mo d_other_ e
      have es4 := (Same.refl _).trans e
      obtain rfl := d_int d2
      refine y_call ?_
      refine y_cons ?_
      refine y_var rfl ?_
      refine y_cons ?_
      refine y_var rfl ?_
      refine y_nil ?_
      refine ⟨amb, _, _, _, _, _, rfl, z, (LV.sub d_held_ mgE), d_other_, ?_⟩
      refine run_mono3 hw (fun t5 hw v H Ho e z d6 => ?_)
      replace d_held_ := LV.mo d_held_ e
      replace d_one_ := D.mo d_one_ e
      replace d_other_ := D.mo d_other_ e
      have es8 := es4.trans e
      obtain rfl := d_int d6
      refine y_eqi ?_
      exact (run_ret hw) _ _ _ es8 z (Dq.bl _)
    · refine y_nxS ?_
      refine y_ret ?_
      refine y_op ?_
      refine y_call ?_
      refine y_cons ?_
      refine y_var rfl ?_
      refine y_cons ?_
      refine y_var rfl ?_
      refine y_nil ?_
      refine ⟨amb, _, _, _, _, _, rfl, z, (LV.sub d_held_ mgE), d_one_, ?_⟩
      refine run_mono3 hw (fun t9 hw v H Ho e z d10 => ?_)
      replace d_held_ := LV.mo d_held_ e
      replace d_one_ := D.mo d_one_ e
      replace d_other_ := D.mo d_other_ e
      have es12 := (Same.refl _).trans e
      obtain rfl := d_int d10
      refine y_call ?_
      refine y_cons ?_
      refine y_var rfl ?_
      refine y_cons ?_
      refine y_var rfl ?_
      refine y_nil ?_
      refine ⟨amb, _, _, _, _, _, rfl, z, (LV.sub d_held_ mgE), d_other_, ?_⟩
      refine run_mono3 hw (fun t13 hw v H Ho e z d14 => ?_)
      replace d_held_ := LV.mo d_held_ e
      replace d_one_ := D.mo d_one_ e
      replace d_other_ := D.mo d_other_ e
      have es16 := es12.trans e
      obtain rfl := d_int d14
      refine y_i0 ?_
      exact (run_ret hw) _ _ _ es16 z (Dq.bl _)
def sp_put_in (K : PySem.W.Frag) (cl : Nat → Addr) : Sp := fun vs H Q E => ∃ (amb : Grp) (Ho : Hp) (v0 : V) (x0 : ObHand) (g0 : Grp) (v1 : V) (x1 : Str) (v2 : V) (x2 : Int), vs = [v0, v1, v2] ∧ Zs (g0 ++ amb) H Ho ∧ OC_Hand K Ho v0 x0 g0 ∧ Z.D K Ho v1 x1 ∧ Z.D K Ho v2 x2 ∧ (m_put_in x0 x1 x2).run fun r => ∀ v h0 H' Ho', Same Ho Ho' → Zs (h0 ++ amb) H' Ho' → Z.D K Ho' v r.1 → OC_Hand K Ho' v0 r.2 h0 → Q v H'
abbrev s_put_in : Stmt := topS 13
theorem sc_put_in : FnScope ["hand", "box", "number"] ["hand", "box", "number"] (defScope s_put_in) := ⟨rfl, rfl, rfl, by decide +kernel, rfl, by decide +kernel, by decide +kernel⟩
theorem ok_put_in {f : Addr} {fd : FuncData} (F : Fun K "put_in" "put_in" s_put_in f fd) {q_Hand : Addr} {tk_LETTERS : Tok} (g_LETTERS : mg "LETTERS" = some (.str ("abcdefgh" : Str) tk_LETTERS)) (cf_Hand : CF K q_Hand "Hand" ns_Hand) :
    FnOk P w K mg base CX0 1 f fd ["hand", "box", "number"] (sp_put_in K cl) := by
  refine F.ok sc_put_in (fun vs H Q E h => ?_) (fun cdv A outer s H vs Q E hr h => ?_)
  · obtain ⟨amb, Ho, v_hand_, hand_, g_hand_, v_box_, box_, v_number_, number_, rfl, _⟩ := h
    rfl
  · obtain ⟨amb, Ho, v_hand_, hand_, g_hand_, v_box_, box_, v_number_, number_, rfl, z, d_hand_, d_box_, d_number_, hw⟩ := h
    refine ⟨_, pss_cons (ps_asg (pv 2) (pg_sub (zpe_fld (K := K) rfl (pv 0) rfl) (pe_m1 PySem.F.slot_str_index PySem.F.type_str_index zmt_sindex (pe_glob (v := .str ("abcdefgh" : Str)) rfl g_LETTERS ⟨_, rfl⟩) (pv 1)) set_list)) (pss_nil), ?_⟩
    obtain rfl := d_str d_box_
    obtain rfl := d_int d_number_
    refine OC_Hand.op cf_Hand d_hand_ z (fun a_hand dx_hand v_hand__rows_ v_hand__at_ v_hand__held_ v_hand__spoken_ v_hand__way_ g_hand__held_ g_hand__spoken_ hv hg_hand d_hand__rows_ d_hand__at_ d_hand__held_ d_hand__spoken_ d_hand__way_ z => ?_)
    cases hv
    refine h_nmG (P := fun x => Z.D K Ho v_hand__rows_ x) hw d_hand__rows_ (fun hand__rows_ d_hand__rows_ hw => ?_)
    refine h_nmG (P := fun x => Z.D K Ho v_hand__at_ x) hw d_hand__at_ (fun hand__at_ d_hand__at_ hw => ?_)
    obtain rfl := d_int d_hand__at_
    refine h_nmG (P := fun x => OL K Ho v_hand__held_ x g_hand__held_) hw d_hand__held_ (fun hand__held_ d_hand__held_ hw => ?_)
    refine h_nmG (P := fun x => OL K Ho v_hand__spoken_ x g_hand__spoken_) hw d_hand__spoken_ (fun hand__spoken_ d_hand__spoken_ hw => ?_)
    refine h_nmG (P := fun x => Z.D K Ho v_hand__way_ x) hw d_hand__way_ (fun hand__way_ d_hand__way_ hw => ?_)
    obtain rfl := d_str d_hand__way_
    replace z : Zs ([(a_hand, HO.ins q_Hand dx_hand (ns_Hand.zip [v_hand__rows_, (V.int hand__at_), v_hand__held_, v_hand__spoken_, (V.str hand__way_)]))] ++ (g_hand__held_ ++ (g_hand__spoken_ ++ amb))) H Ho := z
    refine y_asgG ?_
    refine y_var rfl ?_
    refine y_gsub ?_
    refine y_fld ?_
    refine y_var rfl ?_
    refine o_fld (i := 2) cf_Hand mg0 z rfl rfl ?_
    refine y_tm1 ?_
    refine y_c ?_
    refine y_tm1s ?_
    refine y_var rfl ?_
    refine y_sindex hw (fun t2 hw => ?_)
    replace z : Zs (g_hand__held_ ++ ([(a_hand, HO.ins q_Hand dx_hand (ns_Hand.zip [v_hand__rows_, (V.int hand__at_), v_hand__held_, v_hand__spoken_, (V.str hand__way_)]))] ++ (g_hand__spoken_ ++ amb))) _ _ := z.go [[(a_hand, HO.ins q_Hand dx_hand (ns_Hand.zip [v_hand__rows_, (V.int hand__at_), v_hand__held_, v_hand__spoken_, (V.str hand__way_)]))], g_hand__held_, g_hand__spoken_] amb [1, 0, 2]
    refine g_sti z d_hand__held_ (Dq.int _) hw (fun hand__held_ g_hand__held_ H z d_hand__held_ hw => ?_)
    replace z : Zs ([(a_hand, HO.ins q_Hand dx_hand (ns_Hand.zip [v_hand__rows_, (V.int hand__at_), v_hand__held_, v_hand__spoken_, (V.str hand__way_)]))] ++ (g_hand__held_ ++ (g_hand__spoken_ ++ amb))) _ _ := z.go [g_hand__held_, [(a_hand, HO.ins q_Hand dx_hand (ns_Hand.zip [v_hand__rows_, (V.int hand__at_), v_hand__held_, v_hand__spoken_, (V.str hand__way_)]))], g_hand__spoken_] amb [1, 0, 2]
    refine OC_Hand.cl (x := (⟨hand__rows_, hand__at_, hand__held_, hand__spoken_, hand__way_⟩ : ObHand)) cf_Hand d_hand__rows_ (Dq.int _) d_hand__held_ d_hand__spoken_ (Dq.str _) z (fun g3 d4 z => ?_)
    exact (run_ret hw) _ _ _ _ (Same.refl _) z Dq.non d4
def sp_do_own (K : PySem.W.Frag) (cl : Nat → Addr) : Sp := fun vs H Q E => ∃ (amb : Grp) (Ho : Hp) (v0 : V) (x0 : ObHand) (g0 : Grp) (v1 : V) (x1 : PyData), vs = [v0, v1] ∧ Zs (g0 ++ amb) H Ho ∧ OC_Hand K Ho v0 x0 g0 ∧ Z.D K Ho v1 x1 ∧ (m_do_own x0 x1).run fun r => ∀ v h0 H' Ho', Same Ho Ho' → Zs (h0 ++ amb) H' Ho' → Z.D K Ho' v r.1 → OC_Hand K Ho' v0 r.2 h0 → Q v H'
abbrev s_do_own : Stmt := topS 14
theorem sc_do_own : FnScope ["hand", "row"] ["hand", "row"] (defScope s_do_own) := ⟨rfl, rfl, rfl, by decide +kernel, rfl, by decide +kernel, by decide +kernel⟩
theorem ok_do_own {f : Addr} {fd : FuncData} (F : Fun K "do_own" "do_own" s_do_own f fd) {q_Hand : Addr} {f_put_in : Addr} {fd_put_in : FuncData} (c_put_in : Cal P w K mg base CX0 "put_in" ["hand", "box", "number"] 1 (sp_put_in K cl) f_put_in fd_put_in) {f_worth_now : Addr} {fd_worth_now : FuncData} (c_worth_now : Cal P w K mg base CX0 "worth_now" ["held", "told"] 4 (sp_worth_now K cl) f_worth_now fd_worth_now) {f_is_so : Addr} {fd_is_so : FuncData} (c_is_so : Cal P w K mg base CX0 "is_so" ["held", "sign", "one", "other"] 5 (sp_is_so K cl) f_is_so fd_is_so) (cf_Hand : CF K q_Hand "Hand" ns_Hand) :
    FnOk P w K mg base CX0 6 f fd ["hand", "row"] (sp_do_own K cl) := by
  refine F.ok sc_do_own (fun vs H Q E h => ?_) (fun cdv A outer s H vs Q E hr h => ?_)
  · obtain ⟨amb, Ho, v_hand_, hand_, g_hand_, v_row_, row_, rfl, _⟩ := h
    rfl
  · obtain ⟨amb, Ho, v_hand_, hand_, g_hand_, v_row_, row_, rfl, z, d_hand_, d_row_, hw⟩ := h
    refine ⟨_, pss_cons (zps_fldaug (K := K) rfl (pv 0) pe_int in_add) (pss_cons (ps_if (pt_cmpR (zop_eqD (K := K) rfl hr.units) (pe_ix (zix_any (K := K) rfl) (pv 1) (pe_int) (fun _ _ => rfl)) (pe_str) (nomark _)) (pss_cons (ps_expr (pe_call c_put_in.ok (hr.mono (by decide)) (by rfl) c_put_in.g c_put_in.kp c_put_in.b .nil pass0 (pa_cons (pv 0) (pa_cons (pe_ix (zix_any (K := K) rfl) (pv 1) (pe_int) (fun _ _ => rfl)) (pa_cons (pe_call c_worth_now.ok (hr.mono (by decide)) (by rfl) c_worth_now.g c_worth_now.kp c_worth_now.b .nil pass0 (pa_cons (zpe_fld (K := K) rfl (pv 0) rfl) (pa_cons (pe_ix (zix_any (K := K) rfl) (pv 1) (pe_int) (fun _ _ => rfl)) (pa_nil)))) (pa_nil)))))) (pss_nil)) (pss_cons (ps_if (pt_cmpR (zop_eqD (K := K) rfl hr.units) (pe_ix (zix_any (K := K) rfl) (pv 1) (pe_int) (fun _ _ => rfl)) (pe_str) (nomark _)) (pss_cons (ps_expr (pe_bm PySem.F.plainAttrs_list PySem.F.slot_list_append PySem.F.type_list_append mt_append (zpe_fld (K := K) rfl (pv 0) rfl) (pa_cons (pe_call c_worth_now.ok (hr.mono (by decide)) (by rfl) c_worth_now.g c_worth_now.kp c_worth_now.b .nil pass0 (pa_cons (zpe_fld (K := K) rfl (pv 0) rfl) (pa_cons (pe_ix (zix_any (K := K) rfl) (pv 1) (pe_int) (fun _ _ => rfl)) (pa_nil)))) (pa_nil)))) (pss_nil)) (pss_cons (ps_if (pt_cmpR (zop_eqD (K := K) rfl hr.units) (pe_ix (zix_any (K := K) rfl) (pv 1) (pe_int) (fun _ _ => rfl)) (pe_str) (nomark _)) (pss_cons (zps_fld (K := K) rfl (pv 0) (pe_ix (zix_any (K := K) rfl) (pv 1) (pe_int) (fun _ _ => rfl)) rfl) (pss_nil)) (pss_cons (ps_if (pt_not (pt_val (pe_call c_is_so.ok (hr.mono (by decide)) (by rfl) c_is_so.g c_is_so.kp c_is_so.b .nil pass0 (pa_cons (zpe_fld (K := K) rfl (pv 0) rfl) (pa_cons (pe_ix (zix_any (K := K) rfl) (pv 1) (pe_int) (fun _ _ => rfl)) (pa_cons (pe_ix (zix_any (K := K) rfl) (pv 1) (pe_int) (fun _ _ => rfl)) (pa_cons (pe_ix (zix_any (K := K) rfl) (pv 1) (pe_int) (fun _ _ => rfl)) (pa_nil)))))))) (pss_cons (zps_fld (K := K) rfl (pv 0) (pe_ix (zix_any (K := K) rfl) (pv 1) (pe_int) (fun _ _ => rfl)) rfl) (pss_nil)) (pss_nil)) (pss_nil))) (pss_nil))) (pss_nil))) (pss_nil)), ?_⟩
    refine OC_Hand.op cf_Hand d_hand_ z (fun a_hand dx_hand v_hand__rows_ v_hand__at_ v_hand__held_ v_hand__spoken_ v_hand__way_ g_hand__held_ g_hand__spoken_ hv hg_hand d_hand__rows_ d_hand__at_ d_hand__held_ d_hand__spoken_ d_hand__way_ z => ?_)
    cases hv
    refine h_nmG (P := fun x => Z.D K Ho v_hand__rows_ x) hw d_hand__rows_ (fun hand__rows_ d_hand__rows_ hw => ?_)
    refine h_nmG (P := fun x => Z.D K Ho v_hand__at_ x) hw d_hand__at_ (fun hand__at_ d_hand__at_ hw => ?_)
    obtain rfl := d_int d_hand__at_
    refine h_nmG (P := fun x => OL K Ho v_hand__held_ x g_hand__held_) hw d_hand__held_ (fun hand__held_ d_hand__held_ hw => ?_)
    refine h_nmG (P := fun x => OL K Ho v_hand__spoken_ x g_hand__spoken_) hw d_hand__spoken_ (fun hand__spoken_ d_hand__spoken_ hw => ?_)
    refine h_nmG (P := fun x => Z.D K Ho v_hand__way_ x) hw d_hand__way_ (fun hand__way_ d_hand__way_ hw => ?_)
    obtain rfl := d_str d_hand__way_
    replace z : Zs ([(a_hand, HO.ins q_Hand dx_hand (ns_Hand.zip [v_hand__rows_, (V.int hand__at_), v_hand__held_, v_hand__spoken_, (V.str hand__way_)]))] ++ (g_hand__held_ ++ (g_hand__spoken_ ++ amb))) H Ho := z
    refine y_fldaug ?_
    refine y_var rfl ?_
    refine o_faug (j := 1) cf_Hand z rfl rfl (fun H z => ?_)
    refine h_nmG (P := fun x => Zs ([(a_hand, HO.ins q_Hand dx_hand (ns_Hand.zip (List.set [v_hand__rows_, (V.int hand__at_), v_hand__held_, v_hand__spoken_, (V.str hand__way_)] 1 (V.int x))))] ++ (g_hand__held_ ++ (g_hand__spoken_ ++ amb))) H Ho) hw z (fun hand__at_ z hw => ?_)
    replace z : Zs ([(a_hand, HO.ins q_Hand dx_hand (ns_Hand.zip [v_hand__rows_, (V.int hand__at_), v_hand__held_, v_hand__spoken_, (V.str hand__way_)]))] ++ (g_hand__held_ ++ (g_hand__spoken_ ++ amb))) H Ho := z
    refine y_ifS ?_
    refine y_test ?_
    refine y_op ?_
    refine y_op ?_
    refine y_var rfl ?_
    refine y_c ?_
    refine y_ixP d_row_ z hw (fun t2 w d3 hw => ?_)
    refine y_c ?_
    refine y_eqD (D.mo d3 z.le) (Dq.str _) hw.1 ?_
    replace hw := (run_gd hw).2
    refine ⟨_, rfl, ?_⟩
    refine y_cases hw (fun hb hw => ?_) (fun hb hw => ?_)
    · refine y_drop ?_
      refine y_call ?_
      refine y_cons ?_
      refine y_var rfl ?_
      refine y_cons ?_
      refine y_op ?_
      refine y_var rfl ?_
      refine y_c ?_
      refine y_ixP d_row_ z hw (fun t4 w d5 hw => ?_)
      refine y_fr (β := Str) d5 hw (fun t6 d7 hw => ?_)
      obtain rfl := d_str d7
      refine y_cons ?_
      refine y_call ?_
      refine y_cons ?_
      refine y_fld ?_
      refine y_var rfl ?_
      refine o_fld (i := 2) cf_Hand mg0 z rfl rfl ?_
      refine y_cons ?_
      refine y_op ?_
      refine y_var rfl ?_
      refine y_c ?_
      refine y_ixP d_row_ z hw (fun t8 w d9 hw => ?_)
      refine y_nil ?_
      refine ⟨([(a_hand, HO.ins q_Hand dx_hand (ns_Hand.zip [v_hand__rows_, (V.int hand__at_), v_hand__held_, v_hand__spoken_, (V.str hand__way_)]))] ++ (g_hand__held_ ++ (g_hand__spoken_ ++ amb))), _, _, _, _, _, rfl, z, (OL.lv d_hand__held_ (mgS mg0)), d9, ?_⟩
      refine run_mono3 hw (fun t10 hw v H Ho e z d11 => ?_)
      replace d_hand__held_ := OL.mo d_hand__held_ e
      replace d_hand__rows_ := D.mo d_hand__rows_ e
      replace d_hand__spoken_ := OL.mo d_hand__spoken_ e
      replace d_row_ := D.mo d_row_ e
      have es13 := (Same.refl _).trans e
      obtain rfl := d_int d11
      refine y_nil ?_
      refine OC_Hand.cl (x := (⟨hand__rows_, hand__at_, hand__held_, hand__spoken_, hand__way_⟩ : ObHand)) cf_Hand d_hand__rows_ (Dq.int _) d_hand__held_ d_hand__spoken_ (Dq.str _) z (fun g14 d15 z => ?_)
      refine ⟨amb, _, _, _, _, _, _, _, _, rfl, z, d15, (Dq.str _), (Dq.int _), ?_⟩
      refine run_mono2 hw (fun t16 hand_ hw v g_hand_ H Ho e z d17 d_hand_ => ?_)
      replace d17 : Z.D K Ho v t16 := d17
      replace d_hand_ : OC_Hand K Ho (V.ref a_hand) hand_ g_hand_ := d_hand_
      replace d_row_ := D.mo d_row_ e
      have es19 := es13.trans e
      cases d17
      refine OC_Hand.op cf_Hand d_hand_ z (fun a20 dx20 v_hand__rows_ v_hand__at_ v_hand__held_ v_hand__spoken_ v_hand__way_ g_hand__held_ g_hand__spoken_ hv hg_20 d_hand__rows_ d_hand__at_ d_hand__held_ d_hand__spoken_ d_hand__way_ z => ?_)
      cases hv
      refine h_nmG (P := fun x => Z.D K Ho v_hand__rows_ x) hw d_hand__rows_ (fun hand__rows_ d_hand__rows_ hw => ?_)
      refine h_nmG (P := fun x => Z.D K Ho v_hand__at_ x) hw d_hand__at_ (fun hand__at_ d_hand__at_ hw => ?_)
      obtain rfl := d_int d_hand__at_
      refine h_nmG (P := fun x => OL K Ho v_hand__held_ x g_hand__held_) hw d_hand__held_ (fun hand__held_ d_hand__held_ hw => ?_)
      refine h_nmG (P := fun x => OL K Ho v_hand__spoken_ x g_hand__spoken_) hw d_hand__spoken_ (fun hand__spoken_ d_hand__spoken_ hw => ?_)
      refine h_nmG (P := fun x => Z.D K Ho v_hand__way_ x) hw d_hand__way_ (fun hand__way_ d_hand__way_ hw => ?_)
      obtain rfl := d_str d_hand__way_
      replace z : Zs ([(a_hand, HO.ins q_Hand dx20 (ns_Hand.zip [v_hand__rows_, (V.int hand__at_), v_hand__held_, v_hand__spoken_, (V.str hand__way_)]))] ++ (g_hand__held_ ++ (g_hand__spoken_ ++ amb))) H Ho := z
      refine y_nxS ?_
      refine OC_Hand.cl (x := (⟨hand__rows_, hand__at_, hand__held_, hand__spoken_, hand__way_⟩ : ObHand)) cf_Hand d_hand__rows_ (Dq.int _) d_hand__held_ d_hand__spoken_ (Dq.str _) z (fun g21 d22 z => ?_)
      exact (run_ret hw) _ _ _ _ es19 z Dq.non d22
    · refine y_ifS ?_
      refine y_test ?_
      refine y_op ?_
      refine y_op ?_
      refine y_var rfl ?_
      refine y_c ?_
      refine y_ixP d_row_ z hw (fun t23 w d24 hw => ?_)
      refine y_c ?_
      refine y_eqD (D.mo d24 z.le) (Dq.str _) hw.1 ?_
      replace hw := (run_gd hw).2
      refine ⟨_, rfl, ?_⟩
      refine y_cases hw (fun hb hw => ?_) (fun hb hw => ?_)
      · refine y_drop ?_
        refine y_bm ?_
        refine y_fld ?_
        refine y_var rfl ?_
        refine o_fld (i := 3) cf_Hand mg0 z rfl rfl ?_
        refine g_tyL (OL.lv d_hand__spoken_ (mgS (mgS mg0))) z ?_
        refine y_cons ?_
        refine y_call ?_
        refine y_cons ?_
        refine y_fld ?_
        refine y_var rfl ?_
        refine o_fld (i := 2) cf_Hand mg0 z rfl rfl ?_
        refine y_cons ?_
        refine y_op ?_
        refine y_var rfl ?_
        refine y_c ?_
        refine y_ixP d_row_ z hw (fun t25 w d26 hw => ?_)
        refine y_nil ?_
        refine ⟨([(a_hand, HO.ins q_Hand dx_hand (ns_Hand.zip [v_hand__rows_, (V.int hand__at_), v_hand__held_, v_hand__spoken_, (V.str hand__way_)]))] ++ (g_hand__held_ ++ (g_hand__spoken_ ++ amb))), _, _, _, _, _, rfl, z, (OL.lv d_hand__held_ (mgS mg0)), d26, ?_⟩
        refine run_mono3 hw (fun t27 hw v H Ho e z d28 => ?_)
        replace d_hand__held_ := OL.mo d_hand__held_ e
        replace d_hand__rows_ := D.mo d_hand__rows_ e
        replace d_hand__spoken_ := OL.mo d_hand__spoken_ e
        replace d_row_ := D.mo d_row_ e
        have es30 := (Same.refl _).trans e
        obtain rfl := d_int d28
        refine y_nil ?_
        replace z : Zs (g_hand__spoken_ ++ ([(a_hand, HO.ins q_Hand dx_hand (ns_Hand.zip [v_hand__rows_, (V.int hand__at_), v_hand__held_, v_hand__spoken_, (V.str hand__way_)]))] ++ (g_hand__held_ ++ amb))) _ _ := z.go [[(a_hand, HO.ins q_Hand dx_hand (ns_Hand.zip [v_hand__rows_, (V.int hand__at_), v_hand__held_, v_hand__spoken_, (V.str hand__way_)]))], g_hand__held_, g_hand__spoken_] amb [2, 0, 1]
        refine g_app z d_hand__spoken_ (Dq.int _) hw (fun hand__spoken_ g_hand__spoken_ H z d_hand__spoken_ hw => ?_)
        refine y_nxS ?_
        refine y_nxS ?_
        replace z : Zs ([(a_hand, HO.ins q_Hand dx_hand (ns_Hand.zip [v_hand__rows_, (V.int hand__at_), v_hand__held_, v_hand__spoken_, (V.str hand__way_)]))] ++ (g_hand__held_ ++ (g_hand__spoken_ ++ amb))) _ _ := z.go [g_hand__spoken_, [(a_hand, HO.ins q_Hand dx_hand (ns_Hand.zip [v_hand__rows_, (V.int hand__at_), v_hand__held_, v_hand__spoken_, (V.str hand__way_)]))], g_hand__held_] amb [1, 2, 0]
        refine OC_Hand.cl (x := (⟨hand__rows_, hand__at_, hand__held_, hand__spoken_, hand__way_⟩ : ObHand)) cf_Hand d_hand__rows_ (Dq.int _) d_hand__held_ d_hand__spoken_ (Dq.str _) z (fun g31 d32 z => ?_)
        exact (run_ret hw) _ _ _ _ es30 z Dq.non d32
      · refine y_ifS ?_
        refine y_test ?_
        refine y_op ?_
        refine y_op ?_
        refine y_var rfl ?_
        refine y_c ?_
        refine y_ixP d_row_ z hw (fun t33 w d34 hw => ?_)
        refine y_c ?_
        refine y_eqD (D.mo d34 z.le) (Dq.str _) hw.1 ?_
        replace hw := (run_gd hw).2
        refine ⟨_, rfl, ?_⟩
        refine y_cases hw (fun hb hw => ?_) (fun hb hw => ?_)
        · refine y_sfld ?_
          refine y_op ?_
          refine y_var rfl ?_
          refine y_c ?_
          refine y_ixP d_row_ z hw (fun t35 w d36 hw => ?_)
          refine y_fr (β := Int) d36 hw (fun t37 d38 hw => ?_)
          obtain rfl := d_int d38
          obtain ⟨vo39, z⟩ : ∃ vo39, Zs ([(a_hand, HO.ins q_Hand dx_hand (ns_Hand.zip [v_hand__rows_, vo39, v_hand__held_, v_hand__spoken_, (V.str hand__way_)]))] ++ (g_hand__held_ ++ (g_hand__spoken_ ++ amb))) H Ho := ⟨_, z⟩
          refine l_i hw (fun hand__at_ hw => ?_)
          refine y_var rfl ?_
          refine o_sfld (i := 1) cf_Hand z rfl (Nat.le_of_ble_eq_true rfl) (fun H z => ?_)
          replace z : Zs ([(a_hand, HO.ins q_Hand dx_hand (ns_Hand.zip [v_hand__rows_, (V.int hand__at_), v_hand__held_, v_hand__spoken_, (V.str hand__way_)]))] ++ (g_hand__held_ ++ (g_hand__spoken_ ++ amb))) H Ho := z
          refine y_nxS ?_
          refine y_nxS ?_
          refine y_nxS ?_
          refine OC_Hand.cl (x := (⟨hand__rows_, hand__at_, hand__held_, hand__spoken_, hand__way_⟩ : ObHand)) cf_Hand d_hand__rows_ (Dq.int _) d_hand__held_ d_hand__spoken_ (Dq.str _) z (fun g40 d41 z => ?_)
          exact (run_ret hw) _ _ _ _ (Same.refl _) z Dq.non d41
        · refine y_ifS ?_
          refine y_not ?_
          refine y_tB ?_
          refine y_call ?_
          refine y_cons ?_
          refine y_fld ?_
          refine y_var rfl ?_
          refine o_fld (i := 2) cf_Hand mg0 z rfl rfl ?_
          refine y_cons ?_
          refine y_op ?_
          refine y_var rfl ?_
          refine y_c ?_
          refine y_ixP d_row_ z hw (fun t42 w d43 hw => ?_)
          refine y_fr (β := Str) d43 hw (fun t44 d45 hw => ?_)
          obtain rfl := d_str d45
          refine y_cons ?_
          refine y_op ?_
          refine y_var rfl ?_
          refine y_c ?_
          refine y_ixP d_row_ z hw (fun t46 w d47 hw => ?_)
          refine y_cons ?_
          refine y_op ?_
          refine y_var rfl ?_
          refine y_c ?_
          refine y_ixP d_row_ z hw (fun t48 w d49 hw => ?_)
          refine y_nil ?_
          refine ⟨([(a_hand, HO.ins q_Hand dx_hand (ns_Hand.zip [v_hand__rows_, (V.int hand__at_), v_hand__held_, v_hand__spoken_, (V.str hand__way_)]))] ++ (g_hand__held_ ++ (g_hand__spoken_ ++ amb))), _, _, _, _, _, _, _, _, _, rfl, z, (OL.lv d_hand__held_ (mgS mg0)), (Dq.str _), d47, d49, ?_⟩
          refine run_mono3 hw (fun t50 hw v H Ho e z d51 => ?_)
          replace d_hand__held_ := OL.mo d_hand__held_ e
          replace d_hand__rows_ := D.mo d_hand__rows_ e
          replace d_hand__spoken_ := OL.mo d_hand__spoken_ e
          replace d_row_ := D.mo d_row_ e
          have es53 := (Same.refl _).trans e
          obtain rfl := d_bool d51
          refine ⟨_, rfl, ?_⟩
          refine y_cases hw (fun hb hw => ?_) (fun hb hw => ?_)
          · refine y_sfld ?_
            refine y_op ?_
            refine y_var rfl ?_
            refine y_c ?_
            refine y_ixP d_row_ z hw (fun t54 w d55 hw => ?_)
            refine y_fr (β := Int) d55 hw (fun t56 d57 hw => ?_)
            obtain rfl := d_int d57
            obtain ⟨vo58, z⟩ : ∃ vo58, Zs ([(a_hand, HO.ins q_Hand dx_hand (ns_Hand.zip [v_hand__rows_, vo58, v_hand__held_, v_hand__spoken_, (V.str hand__way_)]))] ++ (g_hand__held_ ++ (g_hand__spoken_ ++ amb))) H Ho := ⟨_, z⟩
            refine l_i hw (fun hand__at_ hw => ?_)
            refine y_var rfl ?_
            refine o_sfld (i := 1) cf_Hand z rfl (Nat.le_of_ble_eq_true rfl) (fun H z => ?_)
            replace z : Zs ([(a_hand, HO.ins q_Hand dx_hand (ns_Hand.zip [v_hand__rows_, (V.int hand__at_), v_hand__held_, v_hand__spoken_, (V.str hand__way_)]))] ++ (g_hand__held_ ++ (g_hand__spoken_ ++ amb))) H Ho := z
            refine y_nxS ?_
            refine y_nxS ?_
            refine y_nxS ?_
            refine y_nxS ?_
            refine OC_Hand.cl (x := (⟨hand__rows_, hand__at_, hand__held_, hand__spoken_, hand__way_⟩ : ObHand)) cf_Hand d_hand__rows_ (Dq.int _) d_hand__held_ d_hand__spoken_ (Dq.str _) z (fun g59 d60 z => ?_)
            exact (run_ret hw) _ _ _ _ es53 z Dq.non d60
          · refine y_nxS ?_
            refine y_nxS ?_
            refine y_nxS ?_
            refine y_nxS ?_
            refine OC_Hand.cl (x := (⟨hand__rows_, hand__at_, hand__held_, hand__spoken_, hand__way_⟩ : ObHand)) cf_Hand d_hand__rows_ (Dq.int _) d_hand__held_ d_hand__spoken_ (Dq.str _) z (fun g61 d62 z => ?_)
            exact (run_ret hw) _ _ _ _ es53 z Dq.non d62
def sp_lead_on (K : PySem.W.Frag) (cl : Nat → Addr) : Sp := fun vs H Q E => ∃ (amb : Grp) (Ho : Hp) (v0 : V) (x0 : ObHand) (g0 : Grp), vs = [v0] ∧ Zs (g0 ++ amb) H Ho ∧ OC_Hand K Ho v0 x0 g0 ∧ (m_lead_on x0).run fun r => ∀ v h0 H' Ho', Same Ho Ho' → Zs (h0 ++ amb) H' Ho' → Z.D K Ho' v r.1 → OC_Hand K Ho' v0 r.2 h0 → Q v H'
abbrev s_lead_on : Stmt := topS 15
theorem sc_lead_on : FnScope ["hand", "done", "row"] ["hand"] (defScope s_lead_on) := ⟨rfl, rfl, rfl, by decide +kernel, rfl, by decide +kernel, by decide +kernel⟩
theorem ok_lead_on {f : Addr} {fd : FuncData} (F : Fun K "lead_on" "lead_on" s_lead_on f fd) {q_Hand : Addr} {f_do_own : Addr} {fd_do_own : FuncData} (c_do_own : Cal P w K mg base CX0 "do_own" ["hand", "row"] 6 (sp_do_own K cl) f_do_own fd_do_own) (m_range : mg "range" = none) (m_len : mg "len" = none) {tk_MOST_OWN : Tok} (g_MOST_OWN : mg "MOST_OWN" = some (.int 60 tk_MOST_OWN)) (cf_Hand : CF K q_Hand "Hand" ns_Hand) :
    FnOk P w K mg base CX0 7 f fd ["hand"] (sp_lead_on K cl) := by
  refine F.ok sc_lead_on (fun vs H Q E h => ?_) (fun cdv A outer s H vs Q E hr h => ?_)
  · obtain ⟨amb, Ho, v_hand_, hand_, g_hand_, rfl, _⟩ := h
    rfl
  · obtain ⟨amb, Ho, v_hand_, hand_, g_hand_, rfl, z, d_hand_, hw⟩ := h
    refine ⟨_, pss_cons (ps_for PassesOwn.never rfl (pi_range1 (by rfl) m_range (pa_cons (pe_op op_add (pe_glob (v := .int 60) rfl g_MOST_OWN ⟨_, rfl⟩) (pe_int)) (pa_nil))) (pg_name (i := 1) sc_lead_on.nd rfl (Or.inl rfl)) (pss_cons (ps_if (pt_cmpR (op_eq) (zpe_fld (K := K) rfl (pv 0) rfl) (pe_callB (zlen (K := K) rfl) (by rfl) m_len (by decide +kernel) (pa_cons (zpe_fld (K := K) rfl (pv 0) rfl) (pa_nil))) (nomark _)) (pss_cons (zps_fld (K := K) rfl (pv 0) (pe_str) rfl) (pss_cons (ps_retN) (pss_nil))) (pss_nil)) (pss_cons (ps_set (i := 2) sc_lead_on.nd rfl (Or.inl rfl) (pe_ix (zix_list (K := K) rfl) (zpe_fld (K := K) rfl (pv 0) rfl) (zpe_fld (K := K) rfl (pv 0) rfl) (fun _ _ => rfl))) (pss_cons (ps_if (pt_cmpR ((zop_inT (K := K) rfl)) (pe_ix (zix_any (K := K) rfl) (pv 2) (pe_int) (fun _ _ => rfl)) (pe_tup (pa_cons (pe_str) (pa_cons (pe_str) (pa_cons (pe_str) (pa_nil))))) rfl) (pss_cons (zps_fld (K := K) rfl (pv 0) (pe_str) rfl) (pss_cons (ps_retN) (pss_nil))) (pss_nil)) (pss_cons (ps_if (pt_cmpR (op_lt) (pv 1) (pe_glob (v := .int 60) rfl g_MOST_OWN ⟨_, rfl⟩) (nomark _)) (pss_cons (ps_expr (pe_call c_do_own.ok (hr.mono (by decide)) (by rfl) c_do_own.g c_do_own.kp c_do_own.b .nil pass0 (pa_cons (pv 0) (pa_cons (pv 2) (pa_nil))))) (pss_nil)) (pss_nil)) (pss_nil)))))) (pss_cons (zps_fld (K := K) rfl (pv 0) (pe_str) rfl) (pss_nil)), ?_⟩
    refine OC_Hand.op cf_Hand d_hand_ z (fun a_hand dx_hand v_hand__rows_ v_hand__at_ v_hand__held_ v_hand__spoken_ v_hand__way_ g_hand__held_ g_hand__spoken_ hv hg_hand d_hand__rows_ d_hand__at_ d_hand__held_ d_hand__spoken_ d_hand__way_ z => ?_)
    cases hv
    refine h_nmG (P := fun x => Z.D K Ho v_hand__rows_ x) hw d_hand__rows_ (fun hand__rows_ d_hand__rows_ hw => ?_)
    refine h_nmG (P := fun x => Z.D K Ho v_hand__at_ x) hw d_hand__at_ (fun hand__at_ d_hand__at_ hw => ?_)
    obtain rfl := d_int d_hand__at_
    refine h_nmG (P := fun x => OL K Ho v_hand__held_ x g_hand__held_) hw d_hand__held_ (fun hand__held_ d_hand__held_ hw => ?_)
    refine h_nmG (P := fun x => OL K Ho v_hand__spoken_ x g_hand__spoken_) hw d_hand__spoken_ (fun hand__spoken_ d_hand__spoken_ hw => ?_)
    refine h_nmG (P := fun x => Z.D K Ho v_hand__way_ x) hw d_hand__way_ (fun hand__way_ d_hand__way_ hw => ?_)
    obtain rfl := d_str d_hand__way_
    replace z : Zs ([(a_hand, HO.ins q_Hand dx_hand (ns_Hand.zip [v_hand__rows_, (V.int hand__at_), v_hand__held_, v_hand__spoken_, (V.str hand__way_)]))] ++ (g_hand__held_ ++ (g_hand__spoken_ ++ amb))) H Ho := z
    refine OC_Hand.cl (x := (⟨hand__rows_, hand__at_, hand__held_, hand__spoken_, hand__way_⟩ : ObHand)) cf_Hand d_hand__rows_ (Dq.int _) d_hand__held_ d_hand__spoken_ (Dq.str _) z (fun g2 d3 z => ?_)
    refine h_nmG (P := fun x => OC_Hand K Ho (V.ref a_hand) x g2) hw d3 (fun hand_ d_hand_ hw => ?_)
    refine y_for ?_
    refine k_iR1 ?_
    refine y_cons ?_
    refine y_op ?_
    refine y_c ?_
    refine y_c ?_
    refine y_i0 ?_
    refine y_nil ?_
    refine k_srcR1 (K := K) (Ho := Ho) hw.1 (fun J T => ?_)
    replace hw := (run_gd hw).2
    refine y_forC T hw (fun (s : ObHand) (σ : L2.St) (H Ho : Hp) => ∃ (g_hand_ : Grp) (y_done_ : Option V) (y_row_ : Option V), σ = [some (V.ref a_hand), y_done_, y_row_] ∧ Zs (g_hand_ ++ amb) H Ho ∧ OC_Hand K Ho (V.ref a_hand) s g_hand_) ⟨_, _, _, rfl, z, d_hand_⟩ ?_ ?_ ?_ ?_
    · intro s σ H Ho hI
      obtain ⟨g_hand_, y_done_, y_row_, rfl, z, d_hand_⟩ := hI
      exact ⟨_, z, mgN⟩
    · intro s σ H Ho H2 Ho2 hI e t
      obtain ⟨g_hand_, y_done_, y_row_, rfl, z, d_hand_⟩ := hI
      exact ⟨_, _, _, rfl, t _ z, OC_Hand.mo d_hand_ e⟩
    · intro done_ v_done_ s σ H Ho N B e hI d_done_ hw
      obtain ⟨hand_, rfl⟩ : ∃ q, q = s := ⟨_, rfl⟩
      obtain ⟨g_hand_, y_done_, y_row_, rfl, z, d_hand_⟩ := hI
      have es4 := (Same.refl _).trans e
      obtain rfl := d_int d_done_
      refine y_gname (σ' := [some (V.ref a_hand), some (V.int done_), y_row_]) rfl ?_
      refine OC_Hand.op cf_Hand d_hand_ z (fun a5 dx5 v_hand__rows_ v_hand__at_ v_hand__held_ v_hand__spoken_ v_hand__way_ g_hand__held_ g_hand__spoken_ hv hg_5 d_hand__rows_ d_hand__at_ d_hand__held_ d_hand__spoken_ d_hand__way_ z => ?_)
      cases hv
      refine h_nmG (P := fun x => Z.D K Ho v_hand__rows_ x) hw d_hand__rows_ (fun hand__rows_ d_hand__rows_ hw => ?_)
      refine h_nmG (P := fun x => Z.D K Ho v_hand__at_ x) hw d_hand__at_ (fun hand__at_ d_hand__at_ hw => ?_)
      obtain rfl := d_int d_hand__at_
      refine h_nmG (P := fun x => OL K Ho v_hand__held_ x g_hand__held_) hw d_hand__held_ (fun hand__held_ d_hand__held_ hw => ?_)
      refine h_nmG (P := fun x => OL K Ho v_hand__spoken_ x g_hand__spoken_) hw d_hand__spoken_ (fun hand__spoken_ d_hand__spoken_ hw => ?_)
      refine h_nmG (P := fun x => Z.D K Ho v_hand__way_ x) hw d_hand__way_ (fun hand__way_ d_hand__way_ hw => ?_)
      obtain rfl := d_str d_hand__way_
      replace z : Zs ([(a_hand, HO.ins q_Hand dx5 (ns_Hand.zip [v_hand__rows_, (V.int hand__at_), v_hand__held_, v_hand__spoken_, (V.str hand__way_)]))] ++ (g_hand__held_ ++ (g_hand__spoken_ ++ amb))) H Ho := z
      refine y_ifS ?_
      refine y_test ?_
      refine y_op ?_
      refine y_fld ?_
      refine y_var rfl ?_
      refine o_fld (i := 1) cf_Hand mg0 z rfl rfl ?_
      refine y_cb ?_
      refine y_cons ?_
      refine y_fld ?_
      refine y_var rfl ?_
      refine o_fld (i := 0) cf_Hand mg0 z rfl rfl ?_
      refine y_nil ?_
      refine y_len (LV.of d_hand__rows_) z ?_
      refine y_eqi ?_
      refine ⟨_, rfl, ?_⟩
      refine y_cases hw (fun hb hw => ?_) (fun hb hw => ?_)
      · refine y_sfld ?_
        refine y_c ?_
        obtain ⟨vo6, z⟩ : ∃ vo6, Zs ([(a_hand, HO.ins q_Hand dx5 (ns_Hand.zip [v_hand__rows_, (V.int hand__at_), v_hand__held_, v_hand__spoken_, vo6]))] ++ (g_hand__held_ ++ (g_hand__spoken_ ++ amb))) H Ho := ⟨_, z⟩
        refine l_s hw (fun hand__way_ hw => ?_)
        refine y_var rfl ?_
        refine o_sfld (i := 4) cf_Hand z rfl (Nat.le_of_ble_eq_true rfl) (fun H z => ?_)
        replace z : Zs ([(a_hand, HO.ins q_Hand dx5 (ns_Hand.zip [v_hand__rows_, (V.int hand__at_), v_hand__held_, v_hand__spoken_, (V.str hand__way_)]))] ++ (g_hand__held_ ++ (g_hand__spoken_ ++ amb))) H Ho := z
        refine y_retN ?_
        refine OC_Hand.cl (x := (⟨hand__rows_, hand__at_, hand__held_, hand__spoken_, hand__way_⟩ : ObHand)) cf_Hand d_hand__rows_ (Dq.int _) d_hand__held_ d_hand__spoken_ (Dq.str _) z (fun g7 d8 z => ?_)
        exact (ctl_rt (run_ret hw)) _ _ _ _ (es4.trans (Same.refl _)) z Dq.non d8
      · refine y_nxS ?_
        refine l_asg (fun v => [_, _, some v]) (fun _ => rfl) ?_
        refine y_op ?_
        refine y_fld ?_
        refine y_var rfl ?_
        refine o_fld (i := 0) cf_Hand mg0 z rfl rfl ?_
        refine y_fld ?_
        refine y_var rfl ?_
        refine o_fld (i := 1) cf_Hand mg0 z rfl rfl ?_
        refine y_ixL (LV.of d_hand__rows_) z hw (fun t9 w d10 hw => ?_)
        refine l_d (K := K) (Ho := Ho) hw d10 (fun row_ v_row_ d_row_ hw => ?_)
        refine y_ifS ?_
        refine y_test ?_
        refine y_op ?_
        refine y_op ?_
        refine y_var rfl ?_
        refine y_c ?_
        refine y_ixP d_row_ z hw (fun t11 w d12 hw => ?_)
        refine k_tup ?_
        refine y_cons ?_
        refine y_c ?_
        refine y_cons ?_
        refine y_c ?_
        refine y_cons ?_
        refine y_c ?_
        refine y_nil ?_
        refine k_tupk (K := K) (x := (⟨("load" : Str), ("store" : Str), ("swap" : Str)⟩ : (P3 Str Str Str))) z (by show 3 ≤ sizeLine; decide) _ rfl (DqAll.cons (Dq.str _) (DqAll.cons (Dq.str _) (DqAll.cons (Dq.str _) DqAll.nil))) (fun p H Ho e z d13 => ?_)
        replace d_hand__held_ := OL.mo d_hand__held_ e
        replace d_hand__rows_ := D.mo d_hand__rows_ e
        replace d_hand__spoken_ := OL.mo d_hand__spoken_ e
        replace d_row_ := D.mo d_row_ e
        replace d12 := D.mo d12 e
        have es14 := (Same.refl _).trans e
        refine y_fr (β := Str) d12 hw (fun t15 d16 hw => ?_)
        obtain rfl := d_str d16
        refine y_inT (ss := ([("load" : Str), ("store" : Str), ("swap" : Str)] : List Str)) d13 rfl z ?_
        refine ⟨_, rfl, ?_⟩
        refine y_cases hw (fun hb hw => ?_) (fun hb hw => ?_)
        · refine y_sfld ?_
          refine y_c ?_
          obtain ⟨vo17, z⟩ : ∃ vo17, Zs ([(a_hand, HO.ins q_Hand dx5 (ns_Hand.zip [v_hand__rows_, (V.int hand__at_), v_hand__held_, v_hand__spoken_, vo17]))] ++ (g_hand__held_ ++ (g_hand__spoken_ ++ amb))) H Ho := ⟨_, z⟩
          refine l_s hw (fun hand__way_ hw => ?_)
          refine y_var rfl ?_
          refine o_sfld (i := 4) cf_Hand z rfl (Nat.le_of_ble_eq_true rfl) (fun H z => ?_)
          replace z : Zs ([(a_hand, HO.ins q_Hand dx5 (ns_Hand.zip [v_hand__rows_, (V.int hand__at_), v_hand__held_, v_hand__spoken_, (V.str hand__way_)]))] ++ (g_hand__held_ ++ (g_hand__spoken_ ++ amb))) H Ho := z
          refine y_retN ?_
          refine OC_Hand.cl (x := (⟨hand__rows_, hand__at_, hand__held_, hand__spoken_, hand__way_⟩ : ObHand)) cf_Hand d_hand__rows_ (Dq.int _) d_hand__held_ d_hand__spoken_ (Dq.str _) z (fun g18 d19 z => ?_)
          exact (ctl_rt (run_ret hw)) _ _ _ _ (es4.trans es14) z Dq.non d19
        · refine y_nxS ?_
          refine y_ifS ?_
          refine y_test ?_
          refine y_op ?_
          refine y_var rfl ?_
          refine y_c ?_
          refine y_i0 ?_
          refine ⟨_, rfl, ?_⟩
          refine y_cases hw (fun hb hw => ?_) (fun hb hw => ?_)
          · refine y_drop ?_
            refine y_call ?_
            refine y_cons ?_
            refine y_var rfl ?_
            refine y_cons ?_
            refine y_var rfl ?_
            refine y_nil ?_
            refine OC_Hand.cl (x := (⟨hand__rows_, hand__at_, hand__held_, hand__spoken_, hand__way_⟩ : ObHand)) cf_Hand d_hand__rows_ (Dq.int _) d_hand__held_ d_hand__spoken_ (Dq.str _) z (fun g20 d21 z => ?_)
            refine ⟨amb, _, _, _, _, _, _, rfl, z, d21, d_row_, ?_⟩
            refine run_mono2 hw (fun t22 hand_ hw v g_hand_ H Ho e z d23 d_hand_ => ?_)
            replace d23 : Z.D K Ho v t22 := d23
            replace d_hand_ : OC_Hand K Ho (V.ref a_hand) hand_ g_hand_ := d_hand_
            replace d_row_ := D.mo d_row_ e
            have es25 := es14.trans e
            cases d23
            refine OC_Hand.op cf_Hand d_hand_ z (fun a26 dx26 v_hand__rows_ v_hand__at_ v_hand__held_ v_hand__spoken_ v_hand__way_ g_hand__held_ g_hand__spoken_ hv hg_26 d_hand__rows_ d_hand__at_ d_hand__held_ d_hand__spoken_ d_hand__way_ z => ?_)
            cases hv
            refine h_nmG (P := fun x => Z.D K Ho v_hand__rows_ x) hw d_hand__rows_ (fun hand__rows_ d_hand__rows_ hw => ?_)
            refine h_nmG (P := fun x => Z.D K Ho v_hand__at_ x) hw d_hand__at_ (fun hand__at_ d_hand__at_ hw => ?_)
            obtain rfl := d_int d_hand__at_
            refine h_nmG (P := fun x => OL K Ho v_hand__held_ x g_hand__held_) hw d_hand__held_ (fun hand__held_ d_hand__held_ hw => ?_)
            refine h_nmG (P := fun x => OL K Ho v_hand__spoken_ x g_hand__spoken_) hw d_hand__spoken_ (fun hand__spoken_ d_hand__spoken_ hw => ?_)
            refine h_nmG (P := fun x => Z.D K Ho v_hand__way_ x) hw d_hand__way_ (fun hand__way_ d_hand__way_ hw => ?_)
            obtain rfl := d_str d_hand__way_
            replace z : Zs ([(a_hand, HO.ins q_Hand dx26 (ns_Hand.zip [v_hand__rows_, (V.int hand__at_), v_hand__held_, v_hand__spoken_, (V.str hand__way_)]))] ++ (g_hand__held_ ++ (g_hand__spoken_ ++ amb))) H Ho := z
            refine y_nxS ?_
            refine OC_Hand.cl (x := (⟨hand__rows_, hand__at_, hand__held_, hand__spoken_, hand__way_⟩ : ObHand)) cf_Hand d_hand__rows_ (Dq.int _) d_hand__held_ d_hand__spoken_ (Dq.str _) z (fun g27 d28 z => ?_)
            exact ctl_nx (run_ret hw) _ _ _ es25 ⟨_, _, _, rfl, z, d28⟩
          · refine y_nxS ?_
            refine OC_Hand.cl (x := (⟨hand__rows_, hand__at_, hand__held_, hand__spoken_, hand__way_⟩ : ObHand)) cf_Hand d_hand__rows_ (Dq.int _) d_hand__held_ d_hand__spoken_ (Dq.str _) z (fun g29 d30 z => ?_)
            exact ctl_nx (run_ret hw) _ _ _ es14 ⟨_, _, _, rfl, z, d30⟩
    intro s σ H Ho e hI hw
    obtain ⟨hand_, rfl⟩ : ∃ q, q = s := ⟨_, rfl⟩
    obtain ⟨g_hand_, y_done_, y_row_, rfl, z, d_hand_⟩ := hI
    have es31 := (Same.refl _).trans e
    refine OC_Hand.op cf_Hand d_hand_ z (fun a32 dx32 v_hand__rows_ v_hand__at_ v_hand__held_ v_hand__spoken_ v_hand__way_ g_hand__held_ g_hand__spoken_ hv hg_32 d_hand__rows_ d_hand__at_ d_hand__held_ d_hand__spoken_ d_hand__way_ z => ?_)
    cases hv
    refine h_nmG (P := fun x => Z.D K Ho v_hand__rows_ x) hw d_hand__rows_ (fun hand__rows_ d_hand__rows_ hw => ?_)
    refine h_nmG (P := fun x => Z.D K Ho v_hand__at_ x) hw d_hand__at_ (fun hand__at_ d_hand__at_ hw => ?_)
    obtain rfl := d_int d_hand__at_
    refine h_nmG (P := fun x => OL K Ho v_hand__held_ x g_hand__held_) hw d_hand__held_ (fun hand__held_ d_hand__held_ hw => ?_)
    refine h_nmG (P := fun x => OL K Ho v_hand__spoken_ x g_hand__spoken_) hw d_hand__spoken_ (fun hand__spoken_ d_hand__spoken_ hw => ?_)
    refine h_nmG (P := fun x => Z.D K Ho v_hand__way_ x) hw d_hand__way_ (fun hand__way_ d_hand__way_ hw => ?_)
    obtain rfl := d_str d_hand__way_
    replace z : Zs ([(a_hand, HO.ins q_Hand dx32 (ns_Hand.zip [v_hand__rows_, (V.int hand__at_), v_hand__held_, v_hand__spoken_, (V.str hand__way_)]))] ++ (g_hand__held_ ++ (g_hand__spoken_ ++ amb))) H Ho := z
    refine y_sfld ?_
    refine y_c ?_
    obtain ⟨vo33, z⟩ : ∃ vo33, Zs ([(a_hand, HO.ins q_Hand dx32 (ns_Hand.zip [v_hand__rows_, (V.int hand__at_), v_hand__held_, v_hand__spoken_, vo33]))] ++ (g_hand__held_ ++ (g_hand__spoken_ ++ amb))) H Ho := ⟨_, z⟩
    refine l_s hw (fun hand__way_ hw => ?_)
    refine y_var rfl ?_
    refine o_sfld (i := 4) cf_Hand z rfl (Nat.le_of_ble_eq_true rfl) (fun H z => ?_)
    replace z : Zs ([(a_hand, HO.ins q_Hand dx32 (ns_Hand.zip [v_hand__rows_, (V.int hand__at_), v_hand__held_, v_hand__spoken_, (V.str hand__way_)]))] ++ (g_hand__held_ ++ (g_hand__spoken_ ++ amb))) H Ho := z
    refine OC_Hand.cl (x := (⟨hand__rows_, hand__at_, hand__held_, hand__spoken_, hand__way_⟩ : ObHand)) cf_Hand d_hand__rows_ (Dq.int _) d_hand__held_ d_hand__spoken_ (Dq.str _) z (fun g34 d35 z => ?_)
    exact (run_ret hw) _ _ _ _ es31 z Dq.non d35
def sp_do_touch (K : PySem.W.Frag) (cl : Nat → Addr) : Sp := fun vs H Q E => ∃ (amb : Grp) (Ho : Hp) (v0 : V) (x0 : ObHand) (g0 : Grp) (v1 : V) (x1 : (List Int)) (g1 : Grp), vs = [v0, v1] ∧ Zs (g0 ++ (g1 ++ amb)) H Ho ∧ OC_Hand K Ho v0 x0 g0 ∧ OL K Ho v1 x1 g1 ∧ (m_do_touch x0 x1).run fun r => ∀ v h0 h1 H' Ho', Same Ho Ho' → Zs (h0 ++ (h1 ++ amb)) H' Ho' → Z.D K Ho' v r.1 → OC_Hand K Ho' v0 r.2.1 h0 → OL K Ho' v1 r.2.2 h1 → Q v H'
abbrev s_do_touch : Stmt := topS 16
theorem sc_do_touch : FnScope ["hand", "shared", "row", "box", "cell", "found"] ["hand", "shared"] (defScope s_do_touch) := ⟨rfl, rfl, rfl, by decide +kernel, rfl, by decide +kernel, by decide +kernel⟩
theorem ok_do_touch {f : Addr} {fd : FuncData} (F : Fun K "do_touch" "do_touch" s_do_touch f fd) {q_Hand : Addr} {f_worth_now : Addr} {fd_worth_now : FuncData} (c_worth_now : Cal P w K mg base CX0 "worth_now" ["held", "told"] 4 (sp_worth_now K cl) f_worth_now fd_worth_now) {f_put_in : Addr} {fd_put_in : FuncData} (c_put_in : Cal P w K mg base CX0 "put_in" ["hand", "box", "number"] 1 (sp_put_in K cl) f_put_in fd_put_in) (cf_Hand : CF K q_Hand "Hand" ns_Hand) :
    FnOk P w K mg base CX0 5 f fd ["hand", "shared"] (sp_do_touch K cl) := by
  refine F.ok sc_do_touch (fun vs H Q E h => ?_) (fun cdv A outer s H vs Q E hr h => ?_)
  · obtain ⟨amb, Ho, v_hand_, hand_, g_hand_, v_shared_, shared_, g_shared_, rfl, _⟩ := h
    rfl
  · obtain ⟨amb, Ho, v_hand_, hand_, g_hand_, v_shared_, shared_, g_shared_, rfl, z, d_hand_, d_shared_, hw⟩ := h
    refine ⟨_, pss_cons (ps_set (i := 2) sc_do_touch.nd rfl (Or.inl rfl) (pe_ix (zix_list (K := K) rfl) (zpe_fld (K := K) rfl (pv 0) rfl) (zpe_fld (K := K) rfl (pv 0) rfl) (fun _ _ => rfl))) (pss_cons (zps_fldaug (K := K) rfl (pv 0) pe_int in_add) (pss_cons (ps_if (pt_cmpR (zop_eqD (K := K) rfl hr.units) (pe_ix (zix_any (K := K) rfl) (pv 2) (pe_int) (fun _ _ => rfl)) (pe_str) (nomark _)) (pss_cons (ps_asg (pe_call c_worth_now.ok (hr.mono (by decide)) (by rfl) c_worth_now.g c_worth_now.kp c_worth_now.b .nil pass0 (pa_cons (zpe_fld (K := K) rfl (pv 0) rfl) (pa_cons (pe_ix (zix_any (K := K) rfl) (pv 2) (pe_int) (fun _ _ => rfl)) (pa_nil)))) (pg_sub (pv 1) (pe_ix (zix_any (K := K) rfl) (pv 2) (pe_int) (fun _ _ => rfl)) set_list)) (pss_cons (ps_ret (pe_tup (pa_cons (pe_str) (pa_cons (pe_ix (zix_any (K := K) rfl) (pv 2) (pe_int) (fun _ _ => rfl)) (pa_cons (pe_non) (pa_cons (pe_ix (zix_list (K := K) rfl) (pv 1) (pe_ix (zix_any (K := K) rfl) (pv 2) (pe_int) (fun _ _ => rfl)) (fun _ _ => rfl)) (pa_nil))))))) (pss_nil))) (pss_nil)) (pss_cons (ps_par (i := 3) (j := 4) rfl sc_do_touch.nd rfl rfl (by decide) rfl rfl (pa_cons (pe_ix (zix_any (K := K) rfl) (pv 2) (pe_int) (fun _ _ => rfl)) (pa_cons (pe_ix (zix_any (K := K) rfl) (pv 2) (pe_int) (fun _ _ => rfl)) (pa_nil))) (by rfl)) (pss_cons (ps_set (i := 5) sc_do_touch.nd rfl (Or.inl rfl) (pe_ix (zix_list (K := K) rfl) (pv 1) (pv 4) (fun _ _ => rfl))) (pss_cons (ps_if (pt_cmpR (zop_eqD (K := K) rfl hr.units) (pe_ix (zix_any (K := K) rfl) (pv 2) (pe_int) (fun _ _ => rfl)) (pe_str) (nomark _)) (pss_cons (ps_expr (pe_call c_put_in.ok (hr.mono (by decide)) (by rfl) c_put_in.g c_put_in.kp c_put_in.b .nil pass0 (pa_cons (pv 0) (pa_cons (pv 3) (pa_cons (pv 5) (pa_nil)))))) (pss_cons (ps_ret (pe_tup (pa_cons (pe_str) (pa_cons (pv 4) (pa_cons (pv 5) (pa_cons (pe_non) (pa_nil))))))) (pss_nil))) (pss_nil)) (pss_cons (ps_asg (pe_call c_worth_now.ok (hr.mono (by decide)) (by rfl) c_worth_now.g c_worth_now.kp c_worth_now.b .nil pass0 (pa_cons (zpe_fld (K := K) rfl (pv 0) rfl) (pa_cons (pe_ix (zix_any (K := K) rfl) (pv 2) (pe_int) (fun _ _ => rfl)) (pa_nil)))) (pg_sub (pv 1) (pv 4) set_list)) (pss_cons (ps_expr (pe_call c_put_in.ok (hr.mono (by decide)) (by rfl) c_put_in.g c_put_in.kp c_put_in.b .nil pass0 (pa_cons (pv 0) (pa_cons (pv 3) (pa_cons (pv 5) (pa_nil)))))) (pss_cons (ps_ret (pe_tup (pa_cons (pe_str) (pa_cons (pv 4) (pa_cons (pv 5) (pa_cons (pe_ix (zix_list (K := K) rfl) (pv 1) (pv 4) (fun _ _ => rfl)) (pa_nil))))))) (pss_nil))))))))), ?_⟩
    refine OC_Hand.op cf_Hand d_hand_ z (fun a_hand dx_hand v_hand__rows_ v_hand__at_ v_hand__held_ v_hand__spoken_ v_hand__way_ g_hand__held_ g_hand__spoken_ hv hg_hand d_hand__rows_ d_hand__at_ d_hand__held_ d_hand__spoken_ d_hand__way_ z => ?_)
    cases hv
    refine h_nmG (P := fun x => Z.D K Ho v_hand__rows_ x) hw d_hand__rows_ (fun hand__rows_ d_hand__rows_ hw => ?_)
    refine h_nmG (P := fun x => Z.D K Ho v_hand__at_ x) hw d_hand__at_ (fun hand__at_ d_hand__at_ hw => ?_)
    obtain rfl := d_int d_hand__at_
    refine h_nmG (P := fun x => OL K Ho v_hand__held_ x g_hand__held_) hw d_hand__held_ (fun hand__held_ d_hand__held_ hw => ?_)
    refine h_nmG (P := fun x => OL K Ho v_hand__spoken_ x g_hand__spoken_) hw d_hand__spoken_ (fun hand__spoken_ d_hand__spoken_ hw => ?_)
    refine h_nmG (P := fun x => Z.D K Ho v_hand__way_ x) hw d_hand__way_ (fun hand__way_ d_hand__way_ hw => ?_)
    obtain rfl := d_str d_hand__way_
    replace z : Zs ([(a_hand, HO.ins q_Hand dx_hand (ns_Hand.zip [v_hand__rows_, (V.int hand__at_), v_hand__held_, v_hand__spoken_, (V.str hand__way_)]))] ++ (g_hand__held_ ++ (g_hand__spoken_ ++ (g_shared_ ++ amb)))) H Ho := z
    refine l_asg (fun v => [_, _, some v, _, _, _]) (fun _ => rfl) ?_
    refine y_op ?_
    refine y_fld ?_
    refine y_var rfl ?_
    refine o_fld (i := 0) cf_Hand mg0 z rfl rfl ?_
    refine y_fld ?_
    refine y_var rfl ?_
    refine o_fld (i := 1) cf_Hand mg0 z rfl rfl ?_
    refine y_ixL (LV.of d_hand__rows_) z hw (fun t2 w d3 hw => ?_)
    refine l_d (K := K) (Ho := Ho) hw d3 (fun row_ v_row_ d_row_ hw => ?_)
    refine y_fldaug ?_
    refine y_var rfl ?_
    refine o_faug (j := 1) cf_Hand z rfl rfl (fun H z => ?_)
    refine h_nmG (P := fun x => Zs ([(a_hand, HO.ins q_Hand dx_hand (ns_Hand.zip (List.set [v_hand__rows_, (V.int hand__at_), v_hand__held_, v_hand__spoken_, (V.str hand__way_)] 1 (V.int x))))] ++ (g_hand__held_ ++ (g_hand__spoken_ ++ (g_shared_ ++ amb)))) H Ho) hw z (fun hand__at_ z hw => ?_)
    replace z : Zs ([(a_hand, HO.ins q_Hand dx_hand (ns_Hand.zip [v_hand__rows_, (V.int hand__at_), v_hand__held_, v_hand__spoken_, (V.str hand__way_)]))] ++ (g_hand__held_ ++ (g_hand__spoken_ ++ (g_shared_ ++ amb)))) H Ho := z
    refine y_ifS ?_
    refine y_test ?_
    refine y_op ?_
    refine y_op ?_
    refine y_var rfl ?_
    refine y_c ?_
    refine y_ixP d_row_ z hw (fun t4 w d5 hw => ?_)
    refine y_c ?_
    refine y_eqD (D.mo d5 z.le) (Dq.str _) hw.1 ?_
    replace hw := (run_gd hw).2
    refine ⟨_, rfl, ?_⟩
    refine y_cases hw (fun hb hw => ?_) (fun hb hw => ?_)
    · refine y_asgG ?_
      refine y_call ?_
      refine y_cons ?_
      refine y_fld ?_
      refine y_var rfl ?_
      refine o_fld (i := 2) cf_Hand mg0 z rfl rfl ?_
      refine y_cons ?_
      refine y_op ?_
      refine y_var rfl ?_
      refine y_c ?_
      refine y_ixP d_row_ z hw (fun t6 w d7 hw => ?_)
      refine y_nil ?_
      refine ⟨([(a_hand, HO.ins q_Hand dx_hand (ns_Hand.zip [v_hand__rows_, (V.int hand__at_), v_hand__held_, v_hand__spoken_, (V.str hand__way_)]))] ++ (g_hand__held_ ++ (g_hand__spoken_ ++ (g_shared_ ++ amb)))), _, _, _, _, _, rfl, z, (OL.lv d_hand__held_ (mgS mg0)), d7, ?_⟩
      refine run_mono3 hw (fun t8 hw v H Ho e z d9 => ?_)
      replace d_hand__held_ := OL.mo d_hand__held_ e
      replace d_hand__rows_ := D.mo d_hand__rows_ e
      replace d_hand__spoken_ := OL.mo d_hand__spoken_ e
      replace d_row_ := D.mo d_row_ e
      replace d_shared_ := OL.mo d_shared_ e
      have es11 := (Same.refl _).trans e
      obtain rfl := d_int d9
      refine y_gsub ?_
      refine y_var rfl ?_
      refine y_op ?_
      refine y_var rfl ?_
      refine y_c ?_
      refine y_ixP d_row_ z hw (fun t12 w d13 hw => ?_)
      refine y_fr (β := Int) d13 hw (fun t14 d15 hw => ?_)
      obtain rfl := d_int d15
      replace z : Zs (g_shared_ ++ ([(a_hand, HO.ins q_Hand dx_hand (ns_Hand.zip [v_hand__rows_, (V.int hand__at_), v_hand__held_, v_hand__spoken_, (V.str hand__way_)]))] ++ (g_hand__held_ ++ (g_hand__spoken_ ++ amb)))) _ _ := z.go [[(a_hand, HO.ins q_Hand dx_hand (ns_Hand.zip [v_hand__rows_, (V.int hand__at_), v_hand__held_, v_hand__spoken_, (V.str hand__way_)]))], g_hand__held_, g_hand__spoken_, g_shared_] amb [3, 0, 1, 2]
      refine g_sti z d_shared_ (Dq.int _) hw (fun shared_ g_shared_ H z d_shared_ hw => ?_)
      refine y_ret ?_
      refine k_tup ?_
      refine y_cons ?_
      refine y_c ?_
      refine y_cons ?_
      refine y_op ?_
      refine y_var rfl ?_
      refine y_c ?_
      refine y_ixP d_row_ z hw (fun t16 w d17 hw => ?_)
      refine y_fr (β := Int) d17 hw (fun t18 d19 hw => ?_)
      obtain rfl := d_int d19
      refine y_cons ?_
      refine y_c ?_
      refine y_cons ?_
      refine y_op ?_
      refine y_var rfl ?_
      refine y_op ?_
      refine y_var rfl ?_
      refine y_c ?_
      refine y_ixP d_row_ z hw (fun t20 w d21 hw => ?_)
      refine y_fr (β := Int) d21 hw (fun t22 d23 hw => ?_)
      obtain rfl := d_int d23
      refine y_ixL (OL.lv d_shared_ mg0) z hw (fun t24 w d25 hw => ?_)
      obtain rfl := d_int d25
      refine y_nil ?_
      refine k_tupk (K := K) (x := (⟨("store" : Str), t18, (none : (Option Int)), (some t24)⟩ : (P4 Str Int (Option Int) (Option Int)))) z (by show 4 ≤ sizeLine; decide) _ rfl (DqAll.cons (Dq.str _) (DqAll.cons (Dq.int _) (DqAll.cons (show Z.D K Ho V.non (none : (Option Int)) from Dq.non) (DqAll.cons (show Z.D K Ho _ (some t24) from (Dq.int _)) DqAll.nil)))) (fun p H Ho e z d26 => ?_)
      replace d_hand__held_ := OL.mo d_hand__held_ e
      replace d_hand__rows_ := D.mo d_hand__rows_ e
      replace d_hand__spoken_ := OL.mo d_hand__spoken_ e
      replace d_row_ := D.mo d_row_ e
      replace d_shared_ := OL.mo d_shared_ e
      have es27 := es11.trans e
      replace z : Zs ([(a_hand, HO.ins q_Hand dx_hand (ns_Hand.zip [v_hand__rows_, (V.int hand__at_), v_hand__held_, v_hand__spoken_, (V.str hand__way_)]))] ++ (g_hand__held_ ++ (g_hand__spoken_ ++ (g_shared_ ++ amb)))) _ _ := z.go [g_shared_, [(a_hand, HO.ins q_Hand dx_hand (ns_Hand.zip [v_hand__rows_, (V.int hand__at_), v_hand__held_, v_hand__spoken_, (V.str hand__way_)]))], g_hand__held_, g_hand__spoken_] amb [1, 2, 3, 0]
      refine OC_Hand.cl (x := (⟨hand__rows_, hand__at_, hand__held_, hand__spoken_, hand__way_⟩ : ObHand)) cf_Hand d_hand__rows_ (Dq.int _) d_hand__held_ d_hand__spoken_ (Dq.str _) z (fun g28 d29 z => ?_)
      exact (run_ret hw) _ _ _ _ _ es27 z d26 d29 d_shared_
    · refine y_nxS ?_
      refine l_par (fun v w => [_, _, _, some v, some w, _]) (fun _ _ => rfl) ?_
      refine y_cons ?_
      refine y_op ?_
      refine y_var rfl ?_
      refine y_c ?_
      refine y_ixP d_row_ z hw (fun t30 w d31 hw => ?_)
      refine y_fr (β := Str) d31 hw (fun t32 d33 hw => ?_)
      obtain rfl := d_str d33
      refine y_cons ?_
      refine y_op ?_
      refine y_var rfl ?_
      refine y_c ?_
      refine y_ixP d_row_ z hw (fun t34 w d35 hw => ?_)
      refine y_fr (β := Int) d35 hw (fun t36 d37 hw => ?_)
      obtain rfl := d_int d37
      refine y_nil ?_
      refine l_par2 ?_
      refine l_s hw (fun box_ hw => ?_)
      refine l_i hw (fun cell_ hw => ?_)
      refine l_asg (fun v => [_, _, _, _, _, some v]) (fun _ => rfl) ?_
      refine y_op ?_
      refine y_var rfl ?_
      refine y_var rfl ?_
      refine y_ixL (OL.lv d_shared_ (mgS (mgS (mgS mg0)))) z hw (fun t40 w d41 hw => ?_)
      obtain rfl := d_int d41
      refine l_i hw (fun found_ hw => ?_)
      refine y_ifS ?_
      refine y_test ?_
      refine y_op ?_
      refine y_op ?_
      refine y_var rfl ?_
      refine y_c ?_
      refine y_ixP d_row_ z hw (fun t42 w d43 hw => ?_)
      refine y_c ?_
      refine y_eqD (D.mo d43 z.le) (Dq.str _) hw.1 ?_
      replace hw := (run_gd hw).2
      refine ⟨_, rfl, ?_⟩
      refine y_cases hw (fun hb hw => ?_) (fun hb hw => ?_)
      · refine y_drop ?_
        refine y_call ?_
        refine y_cons ?_
        refine y_var rfl ?_
        refine y_cons ?_
        refine y_var rfl ?_
        refine y_cons ?_
        refine y_var rfl ?_
        refine y_nil ?_
        refine OC_Hand.cl (x := (⟨hand__rows_, hand__at_, hand__held_, hand__spoken_, hand__way_⟩ : ObHand)) cf_Hand d_hand__rows_ (Dq.int _) d_hand__held_ d_hand__spoken_ (Dq.str _) z (fun g44 d45 z => ?_)
        refine ⟨(g_shared_ ++ amb), _, _, _, _, _, _, _, _, rfl, z, d45, (Dq.str _), (Dq.int _), ?_⟩
        refine run_mono2 hw (fun t46 hand_ hw v g_hand_ H Ho e z d47 d_hand_ => ?_)
        replace d47 : Z.D K Ho v t46 := d47
        replace d_hand_ : OC_Hand K Ho (V.ref a_hand) hand_ g_hand_ := d_hand_
        replace d_row_ := D.mo d_row_ e
        replace d_shared_ := OL.mo d_shared_ e
        have es49 := (Same.refl _).trans e
        cases d47
        refine OC_Hand.op cf_Hand d_hand_ z (fun a50 dx50 v_hand__rows_ v_hand__at_ v_hand__held_ v_hand__spoken_ v_hand__way_ g_hand__held_ g_hand__spoken_ hv hg_50 d_hand__rows_ d_hand__at_ d_hand__held_ d_hand__spoken_ d_hand__way_ z => ?_)
        cases hv
        refine h_nmG (P := fun x => Z.D K Ho v_hand__rows_ x) hw d_hand__rows_ (fun hand__rows_ d_hand__rows_ hw => ?_)
        refine h_nmG (P := fun x => Z.D K Ho v_hand__at_ x) hw d_hand__at_ (fun hand__at_ d_hand__at_ hw => ?_)
        obtain rfl := d_int d_hand__at_
        refine h_nmG (P := fun x => OL K Ho v_hand__held_ x g_hand__held_) hw d_hand__held_ (fun hand__held_ d_hand__held_ hw => ?_)
        refine h_nmG (P := fun x => OL K Ho v_hand__spoken_ x g_hand__spoken_) hw d_hand__spoken_ (fun hand__spoken_ d_hand__spoken_ hw => ?_)
        refine h_nmG (P := fun x => Z.D K Ho v_hand__way_ x) hw d_hand__way_ (fun hand__way_ d_hand__way_ hw => ?_)
        obtain rfl := d_str d_hand__way_
        replace z : Zs ([(a_hand, HO.ins q_Hand dx50 (ns_Hand.zip [v_hand__rows_, (V.int hand__at_), v_hand__held_, v_hand__spoken_, (V.str hand__way_)]))] ++ (g_hand__held_ ++ (g_hand__spoken_ ++ (g_shared_ ++ amb)))) H Ho := z
        refine y_ret ?_
        refine k_tup ?_
        refine y_cons ?_
        refine y_c ?_
        refine y_cons ?_
        refine y_var rfl ?_
        refine y_cons ?_
        refine y_var rfl ?_
        refine y_cons ?_
        refine y_c ?_
        refine y_nil ?_
        refine k_tupk (K := K) (x := (⟨("load" : Str), cell_, (some found_), (none : (Option Int))⟩ : (P4 Str Int (Option Int) (Option Int)))) z (by show 4 ≤ sizeLine; decide) _ rfl (DqAll.cons (Dq.str _) (DqAll.cons (Dq.int _) (DqAll.cons (show Z.D K Ho _ (some found_) from (Dq.int _)) (DqAll.cons (show Z.D K Ho V.non (none : (Option Int)) from Dq.non) DqAll.nil)))) (fun p H Ho e z d51 => ?_)
        replace d_hand__held_ := OL.mo d_hand__held_ e
        replace d_hand__rows_ := D.mo d_hand__rows_ e
        replace d_hand__spoken_ := OL.mo d_hand__spoken_ e
        replace d_shared_ := OL.mo d_shared_ e
        have es52 := es49.trans e
        refine OC_Hand.cl (x := (⟨hand__rows_, hand__at_, hand__held_, hand__spoken_, hand__way_⟩ : ObHand)) cf_Hand d_hand__rows_ (Dq.int _) d_hand__held_ d_hand__spoken_ (Dq.str _) z (fun g53 d54 z => ?_)
        exact (run_ret hw) _ _ _ _ _ es52 z d51 d54 d_shared_
      · refine y_nxS ?_
        refine y_asgG ?_
        refine y_call ?_
        refine y_cons ?_
        refine y_fld ?_
        refine y_var rfl ?_
        refine o_fld (i := 2) cf_Hand mg0 z rfl rfl ?_
        refine y_cons ?_
        refine y_op ?_
        refine y_var rfl ?_
        refine y_c ?_
        refine y_ixP d_row_ z hw (fun t55 w d56 hw => ?_)
        refine y_nil ?_
        refine ⟨([(a_hand, HO.ins q_Hand dx_hand (ns_Hand.zip [v_hand__rows_, (V.int hand__at_), v_hand__held_, v_hand__spoken_, (V.str hand__way_)]))] ++ (g_hand__held_ ++ (g_hand__spoken_ ++ (g_shared_ ++ amb)))), _, _, _, _, _, rfl, z, (OL.lv d_hand__held_ (mgS mg0)), d56, ?_⟩
        refine run_mono3 hw (fun t57 hw v H Ho e z d58 => ?_)
        replace d_hand__held_ := OL.mo d_hand__held_ e
        replace d_hand__rows_ := D.mo d_hand__rows_ e
        replace d_hand__spoken_ := OL.mo d_hand__spoken_ e
        replace d_row_ := D.mo d_row_ e
        replace d_shared_ := OL.mo d_shared_ e
        have es60 := (Same.refl _).trans e
        obtain rfl := d_int d58
        refine y_gsub ?_
        refine y_var rfl ?_
        refine y_var rfl ?_
        replace z : Zs (g_shared_ ++ ([(a_hand, HO.ins q_Hand dx_hand (ns_Hand.zip [v_hand__rows_, (V.int hand__at_), v_hand__held_, v_hand__spoken_, (V.str hand__way_)]))] ++ (g_hand__held_ ++ (g_hand__spoken_ ++ amb)))) _ _ := z.go [[(a_hand, HO.ins q_Hand dx_hand (ns_Hand.zip [v_hand__rows_, (V.int hand__at_), v_hand__held_, v_hand__spoken_, (V.str hand__way_)]))], g_hand__held_, g_hand__spoken_, g_shared_] amb [3, 0, 1, 2]
        refine g_sti z d_shared_ (Dq.int _) hw (fun shared_ g_shared_ H z d_shared_ hw => ?_)
        refine y_drop ?_
        refine y_call ?_
        refine y_cons ?_
        refine y_var rfl ?_
        refine y_cons ?_
        refine y_var rfl ?_
        refine y_cons ?_
        refine y_var rfl ?_
        refine y_nil ?_
        replace z : Zs ([(a_hand, HO.ins q_Hand dx_hand (ns_Hand.zip [v_hand__rows_, (V.int hand__at_), v_hand__held_, v_hand__spoken_, (V.str hand__way_)]))] ++ (g_hand__held_ ++ (g_hand__spoken_ ++ (g_shared_ ++ amb)))) _ _ := z.go [g_shared_, [(a_hand, HO.ins q_Hand dx_hand (ns_Hand.zip [v_hand__rows_, (V.int hand__at_), v_hand__held_, v_hand__spoken_, (V.str hand__way_)]))], g_hand__held_, g_hand__spoken_] amb [1, 2, 3, 0]
        refine OC_Hand.cl (x := (⟨hand__rows_, hand__at_, hand__held_, hand__spoken_, hand__way_⟩ : ObHand)) cf_Hand d_hand__rows_ (Dq.int _) d_hand__held_ d_hand__spoken_ (Dq.str _) z (fun g61 d62 z => ?_)
        refine ⟨(g_shared_ ++ amb), _, _, _, _, _, _, _, _, rfl, z, d62, (Dq.str _), (Dq.int _), ?_⟩
        refine run_mono2 hw (fun t63 hand_ hw v g_hand_ H Ho e z d64 d_hand_ => ?_)
        replace d64 : Z.D K Ho v t63 := d64
        replace d_hand_ : OC_Hand K Ho (V.ref a_hand) hand_ g_hand_ := d_hand_
        replace d_shared_ := OL.mo d_shared_ e
        have es66 := es60.trans e
        cases d64
        refine OC_Hand.op cf_Hand d_hand_ z (fun a67 dx67 v_hand__rows_ v_hand__at_ v_hand__held_ v_hand__spoken_ v_hand__way_ g_hand__held_ g_hand__spoken_ hv hg_67 d_hand__rows_ d_hand__at_ d_hand__held_ d_hand__spoken_ d_hand__way_ z => ?_)
        cases hv
        refine h_nmG (P := fun x => Z.D K Ho v_hand__rows_ x) hw d_hand__rows_ (fun hand__rows_ d_hand__rows_ hw => ?_)
        refine h_nmG (P := fun x => Z.D K Ho v_hand__at_ x) hw d_hand__at_ (fun hand__at_ d_hand__at_ hw => ?_)
        obtain rfl := d_int d_hand__at_
        refine h_nmG (P := fun x => OL K Ho v_hand__held_ x g_hand__held_) hw d_hand__held_ (fun hand__held_ d_hand__held_ hw => ?_)
        refine h_nmG (P := fun x => OL K Ho v_hand__spoken_ x g_hand__spoken_) hw d_hand__spoken_ (fun hand__spoken_ d_hand__spoken_ hw => ?_)
        refine h_nmG (P := fun x => Z.D K Ho v_hand__way_ x) hw d_hand__way_ (fun hand__way_ d_hand__way_ hw => ?_)
        obtain rfl := d_str d_hand__way_
        replace z : Zs ([(a_hand, HO.ins q_Hand dx67 (ns_Hand.zip [v_hand__rows_, (V.int hand__at_), v_hand__held_, v_hand__spoken_, (V.str hand__way_)]))] ++ (g_hand__held_ ++ (g_hand__spoken_ ++ (g_shared_ ++ amb)))) H Ho := z
        refine y_ret ?_
        refine k_tup ?_
        refine y_cons ?_
        refine y_c ?_
        refine y_cons ?_
        refine y_var rfl ?_
        refine y_cons ?_
        refine y_var rfl ?_
        refine y_cons ?_
        refine y_op ?_
        refine y_var rfl ?_
        refine y_var rfl ?_
        refine y_ixL (OL.lv d_shared_ (mgS (mgS (mgS mg0)))) z hw (fun t68 w d69 hw => ?_)
        obtain rfl := d_int d69
        refine y_nil ?_
        refine k_tupk (K := K) (x := (⟨("swap" : Str), cell_, (some found_), (some t68)⟩ : (P4 Str Int (Option Int) (Option Int)))) z (by show 4 ≤ sizeLine; decide) _ rfl (DqAll.cons (Dq.str _) (DqAll.cons (Dq.int _) (DqAll.cons (show Z.D K Ho _ (some found_) from (Dq.int _)) (DqAll.cons (show Z.D K Ho _ (some t68) from (Dq.int _)) DqAll.nil)))) (fun p H Ho e z d70 => ?_)
        replace d_hand__held_ := OL.mo d_hand__held_ e
        replace d_hand__rows_ := D.mo d_hand__rows_ e
        replace d_hand__spoken_ := OL.mo d_hand__spoken_ e
        replace d_shared_ := OL.mo d_shared_ e
        have es71 := es66.trans e
        refine OC_Hand.cl (x := (⟨hand__rows_, hand__at_, hand__held_, hand__spoken_, hand__way_⟩ : ObHand)) cf_Hand d_hand__rows_ (Dq.int _) d_hand__held_ d_hand__spoken_ (Dq.str _) z (fun g72 d73 z => ?_)
        exact (run_ret hw) _ _ _ _ _ es71 z d70 d73 d_shared_
def sp_hand_of (K : PySem.W.Frag) (cl : Nat → Addr) : Sp := fun vs H Q E => ∃ (amb : Grp) (Ho : Hp) (v0 : V) (x0 : (List ObHand)) (v1 : V) (x1 : Int), vs = [v0, v1] ∧ Zs amb H Ho ∧ BLo OC_Hand K amb Ho v0 x0 ∧ Z.D K Ho v1 x1 ∧ (m_hand_of x0 x1).run fun r => ∀ v H' Ho', Same Ho Ho' → Zs amb H' Ho' → ElAt amb v0 r v → Q v H'
abbrev s_hand_of : Stmt := topS 17
theorem sc_hand_of : FnScope ["team", "number"] ["team", "number"] (defScope s_hand_of) := ⟨rfl, rfl, rfl, by decide +kernel, rfl, by decide +kernel, by decide +kernel⟩
theorem ok_hand_of {f : Addr} {fd : FuncData} (F : Fun K "hand_of" "hand_of" s_hand_of f fd) (m_len : mg "len" = none) :
    FnOk P w K mg base CX0 1 f fd ["team", "number"] (sp_hand_of K cl) := by
  refine F.ok sc_hand_of (fun vs H Q E h => ?_) (fun cdv A outer s H vs Q E hr h => ?_)
  · obtain ⟨amb, Ho, v_team_, team_, v_number_, number_, rfl, _⟩ := h
    rfl
  · obtain ⟨amb, Ho, v_team_, team_, v_number_, number_, rfl, z, d_team_, d_number_, hw⟩ := h
    refine ⟨_, pss_cons (ps_if (PW.pt (pw_or (pt_cmpR (op_lt) (pv 1) (pe_int) (nomark _)) (pw_or1 (pt_cmpR (op_ge) (pv 1) (pe_callB (zlen (K := K) rfl) (by rfl) m_len (by decide +kernel) (pa_cons (pv 0) (pa_nil))) (nomark _))))) (pss_cons (ps_never) (pss_nil)) (pss_nil)) (pss_cons (ps_ret (pe_ix (zix_list (K := K) rfl) (pv 0) (pv 1) (fun _ _ => rfl))) (pss_nil)), ?_⟩
    obtain rfl := d_int d_number_
    refine y_ifS ?_
    refine y_or ?_
    refine y_test ?_
    refine y_op ?_
    refine y_var rfl ?_
    refine y_c ?_
    refine y_i0 ?_
    refine ⟨_, rfl, ?_⟩
    refine w_orJ hw (fun (s : Bool) (v : Bool) (H2 : Hp) => ∃ (Ho2 : Hp), Same Ho Ho2 ∧ Zs amb H2 Ho2 ∧ v = s) (fun hb hw => ?_) (fun hb hw => ?_) ?_
    · exact (run_ret hw) _ _ ⟨_, (Same.refl _), z, rfl⟩
    · refine y_test ?_
      refine y_op ?_
      refine y_var rfl ?_
      refine y_cb ?_
      refine y_cons ?_
      refine y_var rfl ?_
      refine y_nil ?_
      refine y_lenLo (BLo.sub d_team_ mgE) z ?_
      refine y_i0 ?_
      refine ⟨_, rfl, ?_⟩
      exact (run_ret hw) _ _ ⟨_, (Same.refl _), z, rfl⟩
    rintro t1 v H ⟨Ho, e, z, rfl⟩ hw
    replace d_team_ := BLo.mo d_team_ e
    have es4 := (Same.refl _).trans e
    refine y_cases hw (fun hb hw => ?_) (fun hb hw => ?_)
    · exact hw.elim
    · refine y_nxS ?_
      refine y_ret ?_
      refine y_op ?_
      refine y_var rfl ?_
      refine y_var rfl ?_
      refine y_ixLo d_team_ mgE z hw (fun t5 u6 el7 be8 hw => ?_)
      exact (run_ret hw) _ _ _ es4 z el7
def sp_Works_counts (K : PySem.W.Frag) (cl : Nat → Addr) : Sp := fun vs H Q E => ∃ (amb : Grp) (Ho : Hp) (v0 : V) (x0 : ObWorks), vs = [v0] ∧ Zs amb H Ho ∧ Z.D K Ho v0 x0 ∧ (m_Works_counts x0).run fun r => ∀ v g H' Ho', Same Ho Ho' → Zs (g ++ amb) H' Ho' → OL K Ho' v r g → Q v H'
abbrev s_Works_counts : Stmt := inClass (topS 20) 6
theorem sc_Works_counts : FnScope ["self", "hand"] ["self"] (defScope s_Works_counts) := ⟨rfl, rfl, rfl, by decide +kernel, rfl, by decide +kernel, by decide +kernel⟩
theorem ok_Works_counts {f : Addr} {fd : FuncData} (F : Fun K "counts" "Works.counts" s_Works_counts f fd) {q_Works : Addr} (m_len : mg "len" = none) (m_range : mg "range" = none) (cf_Works : CF K q_Works "Works" ns_Works) :
    FnOk P w K mg base CX0 1 f fd ["self"] (sp_Works_counts K cl) := by
  refine F.ok sc_Works_counts (fun vs H Q E h => ?_) (fun cdv A outer s H vs Q E hr h => ?_)
  · obtain ⟨amb, Ho, v_self_, self_, rfl, _⟩ := h
    rfl
  · obtain ⟨amb, Ho, v_self_, self_, rfl, z, d_self_, hw⟩ := h
    refine ⟨_, pss_cons (ps_ret (pe_lc (own := [("hand", 1)]) rfl sc_Works_counts.nd (pi_range1 (by rfl) m_range (pa_cons (pe_callB (zlen (K := K) rfl) (by rfl) m_len (by decide +kernel) (pa_cons (zpe_fld (K := K) rfl (pv 0) rfl) (pa_nil))) (pa_nil))) (blkOk_by (N := ["self", "hand"]) (sc := defScope s_Works_counts) (by decide +kernel)) (fun _ _ _ _ _ => pg_name (i := 1) sc_Works_counts.nd rfl (Or.inl rfl)) (fun _ _ _ _ _ => pts_nil) (fun _ _ _ _ _ => zpe_bm (K := K) rfl PySem.F.plainAttrs_list PySem.F.slot_list_count PySem.F.type_list_count (zmt_cnt (K := K) rfl) (zpe_fld (K := K) rfl (pv 0) rfl) (pa_cons (pv 1) (pa_nil))))) (pss_nil), ?_⟩
    refine y_ret ?_
    refine y_lc ?_
    refine k_iR1 ?_
    refine y_cons ?_
    refine y_cb ?_
    refine y_cons ?_
    refine y_fld ?_
    refine y_var rfl ?_
    refine o_fldD (i := 1) (x := self_) (w := self_.team) cf_Works d_self_ rfl z rfl rfl (fun w d1 => ?_)
    refine y_nil ?_
    refine y_len (LV.of d1) z ?_
    refine y_nil ?_
    refine k_srcR1 (K := K) (Ho := Ho) hw.1 (fun J T => ?_)
    replace hw := (run_gd hw).2
    refine y_lcG z mgN T hw (fun r2 hand_ v_hand_ H Ho N N' e z d_hand_ hw => ?_) (fun t8 H Ho e hw p5 ws6 z d7 => ?_)
    · replace z : Zs ([r2] ++ amb) H Ho := z
      replace d_self_ := D.mo d_self_ e
      have es3 := (Same.refl _).trans e
      obtain rfl := d_int d_hand_
      refine y_gname (σ' := [some v_self_, some (V.int hand_)]) rfl ?_
      refine ⟨rfl, ?_⟩
      refine y_yes (w_t ?_)
      replace hw := run_itT (run_bret hw) rfl
      refine y_bm ?_
      refine y_fld ?_
      refine y_var rfl ?_
      refine o_fldD (i := 2) (x := self_) (w := self_.past) cf_Works d_self_ rfl z rfl rfl (fun w d4 => ?_)
      refine g_tyL (LV.of d4) z ?_
      refine y_cons ?_
      refine y_var rfl ?_
      refine y_nil ?_
      refine y_cnt (LV.of d4) z ?_
      exact (run_ret hw) _ _ _ (Same.refl _) z (Dq.int _)
    replace d_self_ := D.mo d_self_ e
    have es9 := (Same.refl _).trans e
    replace z : Zs ([(p5, HO.lst ws6)] ++ amb) H Ho := z
    have o10 := OL.mk (p := p5) d7
    exact (run_ret hw) _ _ _ _ es9 z o10
def sp_likeness (K : PySem.W.Frag) (cl : Nat → Addr) : Sp := fun vs H Q E => ∃ (amb : Grp) (Ho : Hp) (v0 : V) (x0 : ObWorks), vs = [v0] ∧ Zs amb H Ho ∧ Z.D K Ho v0 x0 ∧ (m_likeness x0).run fun r => ∀ v H' Ho', Same Ho Ho' → Zs amb H' Ho' → Z.D K Ho' v r → Q v H'
abbrev s_likeness : Stmt := topS 18
theorem sc_likeness : FnScope ["works", "team", "hand", "waits_at"] ["works"] (defScope s_likeness) := ⟨rfl, rfl, rfl, by decide +kernel, rfl, by decide +kernel, by decide +kernel⟩
theorem ok_likeness {f : Addr} {fd : FuncData} (F : Fun K "likeness" "likeness" s_likeness f fd) {q_Works q_Hand : Addr} {f_Works_counts : Addr} {fd_Works_counts : FuncData} (c_Works_counts : MCal P w K mg base CX0 q_Works "counts" ["self"] 1 (sp_Works_counts K cl) f_Works_counts fd_Works_counts) (cf_Works : CF K q_Works "Works" ns_Works) (cf_Hand : CF K q_Hand "Hand" ns_Hand) :
    FnOk P w K mg base CX0 2 f fd ["works"] (sp_likeness K cl) := by
  refine F.ok sc_likeness (fun vs H Q E h => ?_) (fun cdv A outer s H vs Q E hr h => ?_)
  · obtain ⟨amb, Ho, v_works_, works_, rfl, _⟩ := h
    rfl
  · obtain ⟨amb, Ho, v_works_, works_, rfl, z, d_works_, hw⟩ := h
    refine ⟨_, pss_cons (ps_set (i := 1) sc_likeness.nd rfl (Or.inl rfl) (pe_lst (pa_nil))) (pss_cons (ps_for PassesOwn.never rfl (zpi_list (K := K) rfl (zpe_fld (K := K) rfl (pv 0) rfl)) (pg_name (i := 2) sc_likeness.nd rfl (Or.inl rfl)) (pss_cons (ps_set (i := 3) sc_likeness.nd rfl (Or.inl rfl) (pe_non)) (pss_cons (ps_if (pt_cmpR (op_eq) (zpe_fld (K := K) rfl (pv 2) rfl) (pe_str) (nomark _)) (pss_cons (ps_set (i := 3) sc_likeness.nd rfl (Or.inl rfl) (zpe_fld (K := K) rfl (pv 2) rfl)) (pss_nil)) (pss_nil)) (pss_cons (ps_expr (pe_bm PySem.F.plainAttrs_list PySem.F.slot_list_append PySem.F.type_list_append mt_append (pv 1) (pa_cons (pe_tup (pa_cons (zpe_fld (K := K) rfl (pv 2) rfl) (pa_cons (pv 3) (pa_cons (zpe_fld (K := K) rfl (pv 2) rfl) (pa_cons (zpe_fld (K := K) rfl (pv 2) rfl) (pa_cons (zpe_fld (K := K) rfl (pv 2) rfl) (pa_nil))))))) (pa_nil)))) (pss_nil))))) (pss_cons (ps_ret (pe_tup (pa_cons (zpe_fld (K := K) rfl (pv 0) rfl) (pa_cons (pv 1) (pa_cons ((by exact (pe_methS0' (E := fun _ => E0) (pv 0) cf_Works.cl c_Works_counts.me c_Works_counts.ok (hr.mono (by decide)) c_Works_counts.b (fun σ => passAt0 (E := fun _ => E0))))) (pa_nil)))))) (pss_nil))), ?_⟩
    refine l_asg (fun v => [_, some v, _, _]) (fun _ => rfl) ?_
    refine k_lst ?_
    refine y_nil ?_
    refine k_lstk (K := K) (xs := ([] : (List (P5 (List PyData) (Option Int) (List Int) (List Int) Str)))) z DqAll.nil (by show 0 ≤ sizeLine; decide) (fun H p1 ws2 z d3 => ?_)
    replace z : Zs ([(p1, HO.lst ws2)] ++ amb) H Ho := z
    have o4 := OL.mk (p := p1) d3
    refine l_o hw z o4 (fun team_ v_team_ g_team_ z d_team_ hw => ?_)
    refine y_for ?_
    refine k_iList ?_
    refine y_fld ?_
    refine y_var rfl ?_
    refine o_fldD (i := 1) (x := works_) (w := works_.team) cf_Works d_works_ rfl z rfl rfl (fun w d5 => ?_)
    refine k_srcL (r0 := ([] : Grp)) (LV.of d5) mgN z (fun J T => ?_)
    refine y_forL T hw (fun (s : (List (P5 (List PyData) (Option Int) (List Int) (List Int) Str))) (σ : L2.St) (H Ho : Hp) => ∃ (g_team_ : Grp) (y_hand_ : Option V) (y_waits_at_ : Option V), σ = [some v_works_, some v_team_, y_hand_, y_waits_at_] ∧ Zs (g_team_ ++ amb) H Ho ∧ OL K Ho v_team_ s g_team_) ⟨_, _, _, rfl, z, d_team_⟩ ?_ ?_ ?_ ?_
    · intro s σ H Ho hI
      obtain ⟨g_team_, y_hand_, y_waits_at_, rfl, z, d_team_⟩ := hI
      exact ⟨_, z, mgN⟩
    · intro s σ H Ho H2 Ho2 hI e t
      obtain ⟨g_team_, y_hand_, y_waits_at_, rfl, z, d_team_⟩ := hI
      exact ⟨_, _, _, rfl, t _ z, OL.mo d_team_ e⟩
    · intro hand_ v_hand_ s σ H Ho N e hI d_hand_ hw
      obtain ⟨team_, rfl⟩ : ∃ q, q = s := ⟨_, rfl⟩
      obtain ⟨g_team_, y_hand_, y_waits_at_, rfl, z, d_team_⟩ := hI
      replace d_works_ := D.mo d_works_ e
      have es6 := (Same.refl _).trans e
      refine y_gname (σ' := [some v_works_, some v_team_, some v_hand_, y_waits_at_]) rfl ?_
      refine l_asg (fun v => [_, _, _, some v]) (fun _ => rfl) ?_
      refine y_c ?_
      refine l_d (K := K) (Ho := Ho) hw (show Z.D K Ho V.non (none : (Option Int)) from Dq.non) (fun waits_at_ v_waits_at_ d_waits_at_ hw => ?_)
      refine y_ifS ?_
      refine y_test ?_
      refine y_op ?_
      refine y_fld ?_
      refine y_var rfl ?_
      refine o_fldD (i := 4) (x := hand_) (w := hand_.way) cf_Hand d_hand_ rfl z rfl rfl (fun w d7 => ?_)
      obtain rfl := d_str d7
      refine y_c ?_
      refine y_eqs ?_
      refine ⟨_, rfl, ?_⟩
      refine w_ifJ hw (fun (s : (Option Int)) (σ : L2.St) (H : Hp) => ∃ Ho2, Same Ho Ho2 ∧ (fun (s : (Option Int)) (σ : L2.St) (H Ho : Hp) => ∃ (v_waits_at_ : V), σ = [some v_works_, some v_team_, some v_hand_, some v_waits_at_] ∧ Zs (g_team_ ++ amb) H Ho ∧ Z.D K Ho v_waits_at_ s) s σ H Ho2) (fun hb hw => ?_) (fun hb hw => ?_) ?_
      · refine l_asg (fun v => [_, _, _, some v]) (fun _ => rfl) ?_
        refine y_fld ?_
        refine y_var rfl ?_
        refine o_fldD (i := 1) (x := hand_) (w := hand_.at_) cf_Hand d_hand_ rfl z rfl rfl (fun w d8 => ?_)
        obtain rfl := d_int d8
        refine l_d (K := K) (Ho := Ho) hw (show Z.D K Ho _ (some hand_.at_) from (Dq.int _)) (fun waits_at_ v_waits_at_ d_waits_at_ hw => ?_)
        exact (run_ret hw) _ _ ⟨_, (Same.refl _), ⟨_, rfl, z, d_waits_at_⟩⟩
      · refine y_nxS ?_
        exact (run_ret hw) _ _ ⟨_, (Same.refl _), ⟨_, rfl, z, d_waits_at_⟩⟩
      rintro waits_at_ σ H ⟨Ho, e, v_waits_at_, rfl, z, d_waits_at_⟩ hw
      replace d_hand_ := D.mo d_hand_ e
      replace d_team_ := OL.mo d_team_ e
      replace d_works_ := D.mo d_works_ e
      have es9 := (Same.refl _).trans e
      refine y_drop ?_
      refine y_bm ?_
      refine y_var rfl ?_
      refine g_tyL (OL.lv d_team_ mg0) z ?_
      refine y_cons ?_
      refine k_tup ?_
      refine y_cons ?_
      refine y_fld ?_
      refine y_var rfl ?_
      refine o_fldD (i := 0) (x := hand_) (w := hand_.rows) cf_Hand d_hand_ rfl z rfl rfl (fun w d10 => ?_)
      refine y_cons ?_
      refine y_var rfl ?_
      refine y_cons ?_
      refine y_fld ?_
      refine y_var rfl ?_
      refine o_fldD (i := 2) (x := hand_) (w := hand_.held) cf_Hand d_hand_ rfl z rfl rfl (fun w d11 => ?_)
      refine y_cons ?_
      refine y_fld ?_
      refine y_var rfl ?_
      refine o_fldD (i := 3) (x := hand_) (w := hand_.spoken) cf_Hand d_hand_ rfl z rfl rfl (fun w d12 => ?_)
      refine y_cons ?_
      refine y_fld ?_
      refine y_var rfl ?_
      refine o_fldD (i := 4) (x := hand_) (w := hand_.way) cf_Hand d_hand_ rfl z rfl rfl (fun w d13 => ?_)
      obtain rfl := d_str d13
      refine y_nil ?_
      refine k_tupk (K := K) (x := (⟨hand_.rows, waits_at_, hand_.held, hand_.spoken, hand_.way⟩ : (P5 (List PyData) (Option Int) (List Int) (List Int) Str))) z (by show 5 ≤ sizeLine; decide) _ rfl (DqAll.cons d10 (DqAll.cons d_waits_at_ (DqAll.cons d11 (DqAll.cons d12 (DqAll.cons (Dq.str _) DqAll.nil))))) (fun p H Ho e z d14 => ?_)
      replace d_hand_ := D.mo d_hand_ e
      replace d_team_ := OL.mo d_team_ e
      replace d_waits_at_ := D.mo d_waits_at_ e
      replace d_works_ := D.mo d_works_ e
      have es15 := es9.trans e
      refine y_nil ?_
      refine g_app z d_team_ d14 hw (fun team_ g_team_ H z d_team_ hw => ?_)
      exact (run_ret hw) _ _ _ es15 ⟨_, _, _, rfl, z, d_team_⟩
    intro s σ H Ho e hI hw
    obtain ⟨team_, rfl⟩ : ∃ q, q = s := ⟨_, rfl⟩
    obtain ⟨g_team_, y_hand_, y_waits_at_, rfl, z, d_team_⟩ := hI
    replace d_works_ := D.mo d_works_ e
    have es16 := (Same.refl _).trans e
    refine y_ret ?_
    refine k_tup ?_
    refine y_cons ?_
    refine y_fld ?_
    refine y_var rfl ?_
    refine o_fldD (i := 0) (x := works_) (w := works_.shared) cf_Works d_works_ rfl z rfl rfl (fun w d17 => ?_)
    refine y_cons ?_
    refine y_var rfl ?_
    refine y_cons ?_
    refine y_meth ?_
    refine y_var rfl ?_
    refine o_metD cf_Works d_works_ rfl z (by decide +kernel) ?_
    refine y_nil ?_
    refine ⟨[], _, _, _, rfl, z.all, (D.mo d_works_ z.le), ?_⟩
    refine run_mono3 hw (fun t18 hw v g20 H Ho23 e21 z22 d19 => ?_)
    replace z := z.unlendO e21 z22
    replace d19 : OL K Ho v t18 g20 := OL.pu d19
    refine y_nil ?_
    replace z : Zs (g_team_ ++ (g20 ++ amb)) _ _ := z.go [g20, g_team_] amb [1, 0]
    refine l_fr d_team_ z (fun Ho e z d_team_ => ?_)
    replace d_works_ := D.mo d_works_ e
    replace d17 := D.mo d17 e
    replace d19 := OL.mo d19 e
    have es24 := es16.trans e
    refine l_fr d19 z (fun Ho e z d25 => ?_)
    replace d_team_ := D.mo d_team_ e
    replace d_works_ := D.mo d_works_ e
    replace d17 := D.mo d17 e
    have es26 := es24.trans e
    refine k_tupk (K := K) (x := (⟨works_.shared, team_, t18⟩ : (P3 (List Int) (List (P5 (List PyData) (Option Int) (List Int) (List Int) Str)) (List Int)))) z (by show 3 ≤ sizeLine; decide) _ rfl (DqAll.cons d17 (DqAll.cons d_team_ (DqAll.cons d25 DqAll.nil))) (fun p H Ho e z d27 => ?_)
    replace d_team_ := D.mo d_team_ e
    replace d_works_ := D.mo d_works_ e
    have es28 := es26.trans e
    exact (run_ret hw) _ _ _ es28 z d27
def sp_first_numbers (K : PySem.W.Frag) (cl : Nat → Addr) : Sp := fun vs H Q E => ∃ (amb : Grp) (Ho : Hp) (v0 : V) (x0 : Int) (v1 : V) (x1 : (Option (List Int))), vs = [v0, v1] ∧ Zs amb H Ho ∧ Z.D K Ho v0 x0 ∧ Z.D K Ho v1 x1 ∧ (m_first_numbers x0 x1).run fun r => ∀ v g H' Ho', Same Ho Ho' → Zs (g ++ amb) H' Ho' → OL K Ho' v r g → Q v H'
abbrev s_first_numbers : Stmt := topS 19
theorem sc_first_numbers : FnScope ["many", "numbers", "number"] ["many", "numbers"] (defScope s_first_numbers) := ⟨rfl, rfl, rfl, by decide +kernel, rfl, by decide +kernel, by decide +kernel⟩
theorem ok_first_numbers {f : Addr} {fd : FuncData} (F : Fun K "first_numbers" "first_numbers" s_first_numbers f fd) (m_len : mg "len" = none) (m_list : mg "list" = none) {tk_ROUND : Tok} (g_ROUND : mg "ROUND" = some (.int 1000 tk_ROUND)) :
    FnOk P w K mg base CX0 1 f fd ["many", "numbers"] (sp_first_numbers K cl) := by
  refine F.ok sc_first_numbers (fun vs H Q E h => ?_) (fun cdv A outer s H vs Q E hr h => ?_)
  · obtain ⟨amb, Ho, v_many_, many_, v_numbers_, numbers_, rfl, _⟩ := h
    rfl
  · obtain ⟨amb, Ho, v_many_, many_, v_numbers_, numbers_, rfl, z, d_many_, d_numbers_, hw⟩ := h
    refine ⟨_, pss_cons (ps_if (pt_cmpR (op_isN) (pv 1) (pe_non) (nomark _)) (pss_cons (ps_ret (pe_op op_rep (pe_lst (pa_cons (pe_int) (pa_nil))) (pv 0))) (pss_nil)) (pss_nil)) (pss_cons (ps_if (pt_cmpR (op_ne) (pe_callB (zlen (K := K) rfl) (by rfl) m_len (by decide +kernel) (pa_cons (pv 1) (pa_nil))) (pv 0) (nomark _)) (pss_cons (ps_never) (pss_nil)) (pss_nil)) (pss_cons (ps_for PassesOwn.never rfl (zpi_list (K := K) rfl (pv 1)) (pg_name (i := 2) sc_first_numbers.nd rfl (Or.inl rfl)) (pss_cons (ps_if (PW.pt (pw_or (pt_cmpR (op_lt) (pv 2) (pe_int) (nomark _)) (pw_or1 (pt_cmpR (op_ge) (pv 2) (pe_glob (v := .int 1000) rfl g_ROUND ⟨_, rfl⟩) (nomark _))))) (pss_cons (ps_never) (pss_nil)) (pss_nil)) (pss_nil))) (pss_cons (ps_ret (pe_callTy (zlist (K := K) rfl) (by rfl) m_list (by decide +kernel) (pa_cons (pv 1) (pa_nil)))) (pss_nil)))), ?_⟩
    obtain rfl := d_int d_many_
    refine y_ifS ?_
    refine y_test ?_
    refine y_op ?_
    refine y_var rfl ?_
    refine y_c ?_
    refine ⟨rfl, ?_⟩
    rw [dec_non d_numbers_ hw.1]
    replace hw := (run_gd hw).2
    refine ⟨_, rfl, ?_⟩
    refine y_cases hw (fun hb hw => ?_) (fun hb hw => ?_)
    · refine y_ret ?_
      refine y_op ?_
      refine k_lst ?_
      refine y_cons ?_
      refine y_c ?_
      refine y_nil ?_
      refine k_lstk (K := K) (xs := ([(0 : Int)] : (List Int))) z (DqAll.cons (Dq.int _) DqAll.nil) (by show 1 ≤ sizeLine; decide) (fun H p1 ws2 z d3 => ?_)
      replace z : Zs ([(p1, HO.lst ws2)] ++ amb) H Ho := z
      have o4 := OL.mk (p := p1) d3
      refine y_var rfl ?_
      refine y_rep z d3 hw.1 (fun H p5 ws6 z d7 => ?_)
      replace hw := (run_gd hw).2
      replace z : Zs ([(p5, HO.lst ws6)] ++ amb) H Ho := z
      have o8 := OL.mk (p := p5) d7
      exact (run_ret hw) _ _ _ _ (Same.refl _) z o8
    · refine y_nxS ?_
      refine y_ifS ?_
      refine y_test ?_
      refine y_op ?_
      refine y_cb ?_
      refine y_cons ?_
      refine y_var rfl ?_
      refine y_nil ?_
      refine y_get d_numbers_ hw (fun t9 d10 hw => ?_)
      refine y_len (LV.of d10) z ?_
      refine y_var rfl ?_
      refine y_nei ?_
      refine ⟨_, rfl, ?_⟩
      refine y_cases hw (fun hb hw => ?_) (fun hb hw => ?_)
      · exact hw.elim
      · refine y_nxS ?_
        refine y_for ?_
        refine k_iList ?_
        refine y_var rfl ?_
        refine y_get d_numbers_ hw (fun t11 d12 hw => ?_)
        refine k_srcL (r0 := ([] : Grp)) (LV.of d12) mgN z (fun J T => ?_)
        refine y_forL T hw (fun (s : Unit) (σ : L2.St) (H Ho : Hp) => ∃ (y_number_ : Option V), σ = [some (V.int many_), some v_numbers_, y_number_] ∧ Zs amb H Ho) ⟨_, rfl, z⟩ ?_ ?_ ?_ ?_
        · intro s σ H Ho hI
          obtain ⟨y_number_, rfl, z⟩ := hI
          exact ⟨_, z, mgN⟩
        · intro s σ H Ho H2 Ho2 hI e t
          obtain ⟨y_number_, rfl, z⟩ := hI
          exact ⟨_, rfl, t _ z⟩
        · intro number_ v_number_ s σ H Ho N e hI d_number_ hw
          obtain ⟨y_number_, rfl, z⟩ := hI
          replace d_numbers_ := D.mo d_numbers_ e
          have es13 := (Same.refl _).trans e
          obtain rfl := d_int d_number_
          refine y_gname (σ' := [some (V.int many_), some v_numbers_, some (V.int number_)]) rfl ?_
          refine y_ifS ?_
          refine y_or ?_
          refine y_test ?_
          refine y_op ?_
          refine y_var rfl ?_
          refine y_c ?_
          refine y_i0 ?_
          refine ⟨_, rfl, ?_⟩
          refine w_orP (a := (decide (number_ < (0 : Int)))) (decide (number_ ≥ (1000 : Int))) (fun hb hq => ?_) ?_
          · refine y_test ?_
            refine y_op ?_
            refine y_var rfl ?_
            refine y_c ?_
            refine y_i0 ?_
            refine ⟨_, rfl, ?_⟩
            exact hq
          refine y_cases hw (fun hb hw => ?_) (fun hb hw => ?_)
          · exact hw.elim
          · refine y_nxS ?_
            exact (run_ret hw) _ _ _ (Same.refl _) ⟨_, rfl, z⟩
        intro s σ H Ho e hI hw
        obtain ⟨y_number_, rfl, z⟩ := hI
        replace d_numbers_ := D.mo d_numbers_ e
        have es14 := (Same.refl _).trans e
        refine y_ret ?_
        refine y_cb ?_
        refine y_cons ?_
        refine y_var rfl ?_
        refine y_get d_numbers_ hw (fun t15 d16 hw => ?_)
        refine y_nil ?_
        refine y_list (LV.of d16) z (fun H p17 ws18 z d19 => ?_)
        replace z : Zs ([(p17, HO.lst ws18)] ++ amb) H Ho := z
        have o20 := OL.mk (p := p17) d19
        exact (run_ret hw) _ _ _ _ es14 z o20
def sp_Works___init__ (K : PySem.W.Frag) (cl : Nat → Addr) : Sp := fun vs H Q E => ∃ (amb : Grp) (Ho : Hp) (a dx C : Addr) (v1 : V) (x1 : (Int × (List (List PyData)))) (v2 : V) (x2 : (Option (List Int))), vs = [.ref a, v1, v2] ∧ Zs ([(a, HO.ins C dx (ns_Works.zip []))] ++ amb) H Ho ∧ PySem.W.nsIn K mainGlobals "Works" = some (some (.ref C)) ∧ Z.D K Ho v1 x1 ∧ Z.D K Ho v2 x2 ∧ (m_Works___init__ x1 x2).run fun r => ∀ g H' Ho', Same Ho Ho' → Zs (g ++ amb) H' Ho' → OC_Works K Ho' (.ref a) r g → Q .non H'
abbrev s_Works___init__ : Stmt := inClass (topS 20) 0
theorem sc_Works___init__ : FnScope ["self", "program", "cells", "rows", "hand"] ["self", "program", "cells"] (defScope s_Works___init__) := ⟨rfl, rfl, rfl, by decide +kernel, rfl, by decide +kernel, by decide +kernel⟩
theorem ok_Works___init__ {f : Addr} {fd : FuncData} (F : FunD K "__init__" "Works.__init__" (defArgs s_Works___init__) (defBody s_Works___init__) (defScope s_Works___init__) [V.non] [] f fd) {q_Works q_Hand : Addr} {f_first_numbers : Addr} {fd_first_numbers : FuncData} (c_first_numbers : Cal P w K mg base CX0 "first_numbers" ["many", "numbers"] 1 (sp_first_numbers K cl) f_first_numbers fd_first_numbers) {f_Hand___init__ : Addr} {fd_Hand___init__ : FuncData} (c_Hand___init__ : KCal P w K mg base CX0 q_Hand "Hand" ["self", "rows"] 1 (sp_Hand___init__ K cl) f_Hand___init__ fd_Hand___init__) {f_lead_on : Addr} {fd_lead_on : FuncData} (c_lead_on : Cal P w K mg base CX0 "lead_on" ["hand"] 7 (sp_lead_on K cl) f_lead_on fd_lead_on) (cf_Works : CF K q_Works "Works" ns_Works) (cf_Hand : CF K q_Hand "Hand" ns_Hand) :
    FnOk P w K mg base CX0 8 f fd ["self", "program", "cells"] (sp_Works___init__ K cl) := by
  refine F.ok0 sc_Works___init__ (fun vs H Q E h => ?_) (fun cdv A outer s H vs Q E hr h => ?_)
  · obtain ⟨amb, Ho, a_self, dx_self, C0, v_program_, program_, v_cells_, cells_, rfl, _⟩ := h
    rfl
  · obtain ⟨amb, Ho, a_self, dx_self, C0, v_program_, program_, v_cells_, cells_, rfl, z, hC, d_program_, d_cells_, hw⟩ := h
    refine ⟨_, pss_cons (zps_fld (K := K) rfl (pv 0) (pe_call c_first_numbers.ok (hr.mono (by decide)) (by rfl) c_first_numbers.g c_first_numbers.kp c_first_numbers.b .nil pass0 (pa_cons (pe_ix (zix_tup (K := K) rfl) (pv 1) (pe_int) (fun _ _ => rfl)) (pa_cons (pv 2) (pa_nil)))) rfl) (pss_cons (zps_fld (K := K) rfl (pv 0) (pe_lc (own := [("rows", 3)]) rfl sc_Works___init__.nd (zpi_list (K := K) rfl (pe_ix (zix_tup (K := K) rfl) (pv 1) (pe_int) (fun _ _ => rfl))) (blkOk_by (N := ["self", "program", "cells", "rows", "hand"]) (sc := defScope s_Works___init__) (by decide +kernel)) (fun _ _ _ _ _ => pg_name (i := 3) sc_Works___init__.nd rfl (Or.inl rfl)) (fun _ _ _ _ _ => pts_nil) (fun _ _ _ _ _ => (by exact (pe_makeS (E := fun _ => E0) c_Hand___init__.mk_ c_Hand___init__.ok (hr.mono (by decide)) (by rfl) c_Hand___init__.g c_Hand___init__.b (fun σ => passAt0 (E := fun _ => E0)) (pa_cons (pv 3) (pa_nil)))))) rfl) (pss_cons (zps_fld (K := K) rfl (pv 0) (pe_lst (pa_nil)) rfl) (pss_cons (ps_for PassesOwn.never rfl (zpi_list (K := K) rfl (zpe_fld (K := K) rfl (pv 0) rfl)) (pg_name (i := 4) sc_Works___init__.nd rfl (Or.inl rfl)) (pss_cons (ps_expr (pe_call c_lead_on.ok (hr.mono (by decide)) (by rfl) c_lead_on.g c_lead_on.kp c_lead_on.b .nil pass0 (pa_cons (pv 4) pa_nil))) pss_nil)) (pss_nil)))), ?_⟩
    obtain rfl := cf_Works.eq hC
    replace z : Zs ([(a_self, HO.ins q_Works dx_self (ns_Works.zip []))] ++ amb) H Ho := z
    refine y_sfld ?_
    refine y_call ?_
    refine y_cons ?_
    refine y_op ?_
    refine y_var rfl ?_
    refine y_c ?_
    refine y_ixT (y := program_.1) d_program_ z ⟨_, rfl, rfl⟩ (fun w d1 => ?_)
    obtain rfl := d_int d1
    refine y_cons ?_
    refine y_var rfl ?_
    refine y_nil ?_
    refine ⟨[], _, _, _, _, _, rfl, z.all, (Dq.int _), (D.mo d_cells_ z.le), ?_⟩
    refine run_mono3 hw (fun t2 hw v g4 H Ho7 e5 z6 d3 => ?_)
    replace z := z.unlendO e5 z6
    replace d3 : OL K Ho v t2 g4 := OL.pu d3
    refine l_oG (P := fun v x g => OL K Ho v x g) hw z d3 (fun self__shared_ v_self__shared_ g_self__shared_ z d_self__shared_ hw => ?_)
    refine y_var rfl ?_
    replace z : Zs ([(a_self, HO.ins q_Works dx_self (ns_Works.zip []))] ++ (g_self__shared_ ++ amb)) _ _ := z.go [g_self__shared_, [(a_self, HO.ins q_Works dx_self (ns_Works.zip []))]] amb [1, 0]
    refine o_nfld cf_Works z rfl (fun H z => ?_)
    replace z : Zs ([(a_self, HO.ins q_Works dx_self (ns_Works.zip [v_self__shared_]))] ++ (g_self__shared_ ++ amb)) H Ho := z
    refine y_sfld ?_
    refine y_lc ?_
    refine k_iList ?_
    refine y_op ?_
    refine y_var rfl ?_
    refine y_c ?_
    refine y_ixT (y := program_.2) d_program_ z ⟨_, rfl, rfl⟩ (fun w d8 => ?_)
    refine k_srcL (r0 := ([] : Grp)) (LV.of d8) mgN z (fun J T => ?_)
    refine y_lcO (K := K) (P := OC_Hand) (PI := fun Ho x a => Z.D K Ho x a) z mgN T hw (fun r9 rows_ v_rows_ H Ho N N' e z d_rows_ hw => ?_) (fun t16 u g18 H Ho e hw z d17 => ?_)
    · replace d_program_ := D.mo d_program_ e
      replace d_self__shared_ := OL.mo d_self__shared_ e
      have es10 := (Same.refl _).trans e
      refine y_gname (σ' := [some (V.ref a_self), some v_program_, some v_cells_, some v_rows_, none]) rfl ?_
      refine ⟨rfl, ?_⟩
      refine y_yes (w_t ?_)
      refine y_make ?_
      refine y_cons ?_
      refine y_var rfl ?_
      refine y_nil ?_
      refine o_mk (ns := ns_Hand) z (fun a dx H Ho e z => ?_)
      replace d_program_ := D.mo d_program_ e
      replace d_rows_ := D.mo d_rows_ e
      replace d_self__shared_ := OL.mo d_self__shared_ e
      have es11 := (Same.refl _).trans e
      refine ⟨(r9 ++ ([(a_self, HO.ins q_Works dx_self (ns_Works.zip [v_self__shared_]))] ++ (g_self__shared_ ++ amb))), _, a, dx, _, _, _, rfl, z, cf_Hand.at_, (LV.of d_rows_), ?_⟩
      refine run_mono3 hw (fun t12 hw g14 H Ho e z d13 => ⟨rfl, ?_⟩)
      replace d_program_ := D.mo d_program_ e
      replace d_rows_ := D.mo d_rows_ e
      replace d_self__shared_ := OL.mo d_self__shared_ e
      have es15 := es11.trans e
      exact (run_ret hw) _ _ _ _ es15 z d13
    replace d_program_ := D.mo d_program_ e
    replace d_self__shared_ := OL.mo d_self__shared_ e
    have es19 := (Same.refl _).trans e
    refine l_oG (P := fun v x g => OLo OC_Hand K Ho v x g) hw z d17 (fun self__team_ v_self__team_ g_self__team_ z d_self__team_ hw => ?_)
    refine y_var rfl ?_
    replace z : Zs ([(a_self, HO.ins q_Works dx_self (ns_Works.zip [v_self__shared_]))] ++ (g_self__team_ ++ (g_self__shared_ ++ amb))) _ _ := z.go [g_self__team_, [(a_self, HO.ins q_Works dx_self (ns_Works.zip [v_self__shared_]))], g_self__shared_] amb [1, 0, 2]
    refine o_nfld cf_Works z rfl (fun H z => ?_)
    replace z : Zs ([(a_self, HO.ins q_Works dx_self (ns_Works.zip [v_self__shared_, v_self__team_]))] ++ (g_self__team_ ++ (g_self__shared_ ++ amb))) H Ho := z
    refine y_sfld ?_
    refine k_lst ?_
    refine y_nil ?_
    refine k_lstk (K := K) (xs := ([] : (List Int))) z DqAll.nil (by show 0 ≤ sizeLine; decide) (fun H p20 ws21 z d22 => ?_)
    replace z : Zs ([(p20, HO.lst ws21)] ++ ([(a_self, HO.ins q_Works dx_self (ns_Works.zip [v_self__shared_, v_self__team_]))] ++ (g_self__team_ ++ (g_self__shared_ ++ amb)))) H Ho := z
    have o23 := OL.mk (p := p20) d22
    refine l_oG (P := fun v x g => OL K Ho v x g) hw z o23 (fun self__past_ v_self__past_ g_self__past_ z d_self__past_ hw => ?_)
    refine y_var rfl ?_
    replace z : Zs ([(a_self, HO.ins q_Works dx_self (ns_Works.zip [v_self__shared_, v_self__team_]))] ++ (g_self__past_ ++ (g_self__team_ ++ (g_self__shared_ ++ amb)))) _ _ := z.go [g_self__past_, [(a_self, HO.ins q_Works dx_self (ns_Works.zip [v_self__shared_, v_self__team_]))], g_self__team_, g_self__shared_] amb [1, 0, 2, 3]
    refine o_nfld cf_Works z rfl (fun H z => ?_)
    replace z : Zs ([(a_self, HO.ins q_Works dx_self (ns_Works.zip [v_self__shared_, v_self__team_, v_self__past_]))] ++ (g_self__past_ ++ (g_self__team_ ++ (g_self__shared_ ++ amb)))) H Ho := z
    refine y_for ?_
    refine k_iList ?_
    refine y_fld ?_
    refine y_var rfl ?_
    refine o_fld (i := 1) cf_Works mg0 z rfl rfl ?_
    replace z : Zs (g_self__team_ ++ ([(a_self, HO.ins q_Works dx_self (ns_Works.zip [v_self__shared_, v_self__team_, v_self__past_]))] ++ (g_self__past_ ++ (g_self__shared_ ++ amb)))) _ _ := z.go [[(a_self, HO.ins q_Works dx_self (ns_Works.zip [v_self__shared_, v_self__team_, v_self__past_]))], g_self__past_, g_self__team_, g_self__shared_] amb [2, 0, 1, 3]
    refine y_forM d_self__team_ z hw (fun σ => ∃ y_hand_ : Option V, σ = [some (V.ref a_self), some v_program_, some v_cells_, none, y_hand_]) ⟨_, rfl⟩ ?_ ?_
    · rintro a u gi R σ H Ho N z d ⟨y, rfl⟩ hw
      refine y_gname (σ' := [some (V.ref a_self), some v_program_, some v_cells_, none, some u]) rfl ?_
      refine y_drop ?_
      refine y_call ?_
      refine y_cons (y_var rfl (y_nil ?_))
      refine ⟨R, _, _, _, gi, rfl, z, d, ?_⟩
      refine run_mono' hw ?_
      rintro r hr v gi2 H2 Ho2 e z2 dN d2
      cases dN
      exact hr _ _ _ _ ⟨_, rfl⟩ e z2 d2
    rintro self__team_ g_self__team_ σ H Ho e z d_self__team_ ⟨y_hand_, rfl⟩ hw
    replace d_self__past_ := OL.mo d_self__past_ e
    replace d_self__shared_ := OL.mo d_self__shared_ e
    have es25 := es19.trans e
    replace z : Zs ([(a_self, HO.ins q_Works dx_self (ns_Works.zip [v_self__shared_, v_self__team_, v_self__past_]))] ++ (g_self__shared_ ++ (g_self__team_ ++ (g_self__past_ ++ amb)))) _ _ := z.go [g_self__team_, [(a_self, HO.ins q_Works dx_self (ns_Works.zip [v_self__shared_, v_self__team_, v_self__past_]))], g_self__past_, g_self__shared_] amb [1, 3, 0, 2]
    refine OC_Works.cl (x := (⟨self__shared_, self__team_, self__past_⟩ : ObWorks)) cf_Works d_self__shared_ d_self__team_ d_self__past_ z (fun g26 d27 z => ?_)
    exact (run_ret hw) _ _ _ es25 z d27
def sp_Works_turn (K : PySem.W.Frag) (cl : Nat → Addr) : Sp := fun vs H Q E => ∃ (amb : Grp) (Ho : Hp) (v0 : V) (x0 : ObWorks) (g0 : Grp) (v1 : V) (x1 : Int), vs = [v0, v1] ∧ Zs (g0 ++ amb) H Ho ∧ OC_Works K Ho v0 x0 g0 ∧ Z.D K Ho v1 x1 ∧ (m_Works_turn x0 x1).run fun r => ∀ v h0 H' Ho', Same Ho Ho' → Zs (h0 ++ amb) H' Ho' → Z.D K Ho' v r.1 → OC_Works K Ho' v0 r.2 h0 → Q v H'
abbrev s_Works_turn : Stmt := inClass (topS 20) 1
theorem sc_Works_turn : FnScope ["self", "hand", "one", "told"] ["self", "hand"] (defScope s_Works_turn) := ⟨rfl, rfl, rfl, by decide +kernel, rfl, by decide +kernel, by decide +kernel⟩
theorem ok_Works_turn {f : Addr} {fd : FuncData} (F : Fun K "turn" "Works.turn" s_Works_turn f fd) {q_Works q_Hand : Addr} {f_hand_of : Addr} {fd_hand_of : FuncData} (c_hand_of : Cal P w K mg base CX0 "hand_of" ["team", "number"] 1 (sp_hand_of K cl) f_hand_of fd_hand_of) {f_do_touch : Addr} {fd_do_touch : FuncData} (c_do_touch : Cal P w K mg base CX0 "do_touch" ["hand", "shared"] 5 (sp_do_touch K cl) f_do_touch fd_do_touch) {f_lead_on : Addr} {fd_lead_on : FuncData} (c_lead_on : Cal P w K mg base CX0 "lead_on" ["hand"] 7 (sp_lead_on K cl) f_lead_on fd_lead_on) (cf_Works : CF K q_Works "Works" ns_Works) (cf_Hand : CF K q_Hand "Hand" ns_Hand) :
    FnOk P w K mg base CX0 8 f fd ["self", "hand"] (sp_Works_turn K cl) := by
  refine F.ok sc_Works_turn (fun vs H Q E h => ?_) (fun cdv A outer s H vs Q E hr h => ?_)
  · obtain ⟨amb, Ho, v_self_, self_, g_self_, v_hand_, hand_, rfl, _⟩ := h
    rfl
  · obtain ⟨amb, Ho, v_self_, self_, g_self_, v_hand_, hand_, rfl, z, d_self_, d_hand_, hw⟩ := h
    refine ⟨_, pss_cons (ps_set (i := 2) sc_Works_turn.nd rfl (Or.inl rfl) (pe_call c_hand_of.ok (hr.mono (by decide)) (by rfl) c_hand_of.g c_hand_of.kp c_hand_of.b .nil pass0 (pa_cons (zpe_fld (K := K) rfl (pv 0) rfl) (pa_cons (pv 1) (pa_nil))))) (pss_cons (ps_if (pt_cmpR (op_ne) (zpe_fld (K := K) rfl (pv 2) rfl) (pe_str) (nomark _)) (pss_cons (ps_never) (pss_nil)) (pss_nil)) (pss_cons (ps_set (i := 3) sc_Works_turn.nd rfl (Or.inl rfl) (pe_call c_do_touch.ok (hr.mono (by decide)) (by rfl) c_do_touch.g c_do_touch.kp c_do_touch.b .nil pass0 (pa_cons (pv 2) (pa_cons (zpe_fld (K := K) rfl (pv 0) rfl) (pa_nil))))) (pss_cons (ps_expr (pe_bm PySem.F.plainAttrs_list PySem.F.slot_list_append PySem.F.type_list_append mt_append (zpe_fld (K := K) rfl (pv 0) rfl) (pa_cons (pv 1) (pa_nil)))) (pss_cons (ps_expr (pe_call c_lead_on.ok (hr.mono (by decide)) (by rfl) c_lead_on.g c_lead_on.kp c_lead_on.b .nil pass0 (pa_cons (pv 2) (pa_nil)))) (pss_cons (ps_ret (pv 3)) (pss_nil)))))), ?_⟩
    obtain rfl := d_int d_hand_
    refine OC_Works.op cf_Works d_self_ z (fun a_self dx_self v_self__shared_ v_self__team_ v_self__past_ g_self__shared_ g_self__team_ g_self__past_ hv hg_self d_self__shared_ d_self__team_ d_self__past_ z => ?_)
    cases hv
    refine h_nmG (P := fun x => OL K Ho v_self__shared_ x g_self__shared_) hw d_self__shared_ (fun self__shared_ d_self__shared_ hw => ?_)
    refine h_nmG (P := fun x => OLo OC_Hand K Ho v_self__team_ x g_self__team_) hw d_self__team_ (fun self__team_ d_self__team_ hw => ?_)
    refine h_nmG (P := fun x => OL K Ho v_self__past_ x g_self__past_) hw d_self__past_ (fun self__past_ d_self__past_ hw => ?_)
    replace z : Zs ([(a_self, HO.ins q_Works dx_self (ns_Works.zip [v_self__shared_, v_self__team_, v_self__past_]))] ++ (g_self__shared_ ++ (g_self__team_ ++ (g_self__past_ ++ amb)))) H Ho := z
    refine l_asg (fun v => [_, _, some v, _]) (fun _ => rfl) ?_
    refine y_call ?_
    refine y_cons ?_
    refine y_fld ?_
    refine y_var rfl ?_
    refine o_fld (i := 1) cf_Works mg0 z rfl rfl ?_
    refine y_cons ?_
    refine y_var rfl ?_
    refine y_nil ?_
    refine ⟨([(a_self, HO.ins q_Works dx_self (ns_Works.zip [v_self__shared_, v_self__team_, v_self__past_]))] ++ (g_self__shared_ ++ (g_self__team_ ++ (g_self__past_ ++ amb)))), _, _, _, _, _, rfl, z, ⟨_, d_self__team_, (mgS (mgS mg0))⟩, (Dq.int _), ?_⟩
    refine run_mono3 hw (fun t2 hw u5 H Ho e z d3 => ?_)
    replace d_self__past_ := OL.mo d_self__past_ e
    replace d_self__shared_ := OL.mo d_self__shared_ e
    replace d_self__team_ := OLo.mo d_self__team_ e
    have es6 := (Same.refl _).trans e
    refine l_any2 ?_
    refine h_nmG (P := fun i => ElAt _ _ i _) hw d3 (fun one__ix_ el_one_ hw => ?_)
    replace z : Zs (g_self__team_ ++ ([(a_self, HO.ins q_Works dx_self (ns_Works.zip [v_self__shared_, v_self__team_, v_self__past_]))] ++ (g_self__shared_ ++ (g_self__past_ ++ amb)))) _ _ := z.go [[(a_self, HO.ins q_Works dx_self (ns_Works.zip [v_self__shared_, v_self__team_, v_self__past_]))], g_self__shared_, g_self__team_, g_self__past_] amb [2, 0, 1, 3]
    refine o_openE d_self__team_ z el_one_ (fun r m => (List.mem_append.mp m).elim ((mgS mg0) r) ((fun r m => (List.mem_append.mp m).elim ((mgS (mgS mg0)) r) ((fun r m => (List.mem_append.mp m).elim (mg0 r) ((fun r m => (List.mem_append.mp m).elim ((mgS (mgS (mgS mg0))) r) ((mgS (mgS (mgS (mgS mgE)))) r)) r)) r)) r)) hw (fun one_ g_one_ gh_one_ pb_one_ z oh_one_ d_one_ hw => ?_)
    refine y_ifS ?_
    refine y_test ?_
    refine y_op ?_
    refine y_fld ?_
    refine y_var rfl ?_
    refine OC_Hand.f_way cf_Hand d_one_ mg0 z (fun u7 d8 => ?_)
    obtain rfl := d_str d8
    refine y_c ?_
    refine y_nes ?_
    refine ⟨_, rfl, ?_⟩
    refine y_cases hw (fun hb hw => ?_) (fun hb hw => ?_)
    · exact hw.elim
    · refine y_nxS ?_
      refine l_asg (fun v => [_, _, _, some v]) (fun _ => rfl) ?_
      refine y_call ?_
      refine y_cons ?_
      refine y_var rfl ?_
      refine y_cons ?_
      refine y_fld ?_
      refine y_var rfl ?_
      refine o_fld (i := 0) cf_Works (mgS (mgS mg0)) z rfl rfl ?_
      refine y_nil ?_
      replace z : Zs (g_one_ ++ (g_self__shared_ ++ (gh_one_ ++ ([(a_self, HO.ins q_Works dx_self (ns_Works.zip [v_self__shared_, v_self__team_, v_self__past_]))] ++ (g_self__past_ ++ amb))))) _ _ := z.go [g_one_, gh_one_, [(a_self, HO.ins q_Works dx_self (ns_Works.zip [v_self__shared_, v_self__team_, v_self__past_]))], g_self__shared_, g_self__past_] amb [0, 3, 1, 2, 4]
      refine ⟨(gh_one_ ++ ([(a_self, HO.ins q_Works dx_self (ns_Works.zip [v_self__shared_, v_self__team_, v_self__past_]))] ++ (g_self__past_ ++ amb))), _, _, _, _, _, _, _, rfl, z, d_one_, d_self__shared_, ?_⟩
      refine run_mono3 hw ?_
      rintro ⟨t9, one_, self__shared_⟩ hw v g_one_ g_self__shared_ H Ho e z d10 d_one_ d_self__shared_
      replace d10 : Z.D K Ho v t9 := d10
      replace d_one_ : OC_Hand K Ho u5 one_ g_one_ := d_one_
      replace d_self__shared_ : OL K Ho v_self__shared_ self__shared_ g_self__shared_ := d_self__shared_
      replace d_self__past_ := OL.mo d_self__past_ e
      replace oh_one_ := OLh.mo oh_one_ e
      have es12 := es6.trans e
      refine l_d (K := K) (Ho := Ho) hw d10 (fun told_ v_told_ d_told_ hw => ?_)
      refine y_drop ?_
      refine y_bm ?_
      refine y_fld ?_
      refine y_var rfl ?_
      refine o_fld (i := 2) cf_Works (mgS (mgS (mgS mg0))) z rfl rfl ?_
      refine g_tyL (OL.lv d_self__past_ (mgS (mgS (mgS (mgS mg0))))) z ?_
      refine y_cons ?_
      refine y_var rfl ?_
      refine y_nil ?_
      replace z : Zs (g_self__past_ ++ (g_one_ ++ (g_self__shared_ ++ (gh_one_ ++ ([(a_self, HO.ins q_Works dx_self (ns_Works.zip [v_self__shared_, v_self__team_, v_self__past_]))] ++ amb))))) _ _ := z.go [g_one_, g_self__shared_, gh_one_, [(a_self, HO.ins q_Works dx_self (ns_Works.zip [v_self__shared_, v_self__team_, v_self__past_]))], g_self__past_] amb [4, 0, 1, 2, 3]
      refine g_app z d_self__past_ (Dq.int _) hw (fun self__past_ g_self__past_ H z d_self__past_ hw => ?_)
      refine y_drop ?_
      refine y_call ?_
      refine y_cons ?_
      refine y_var rfl ?_
      refine y_nil ?_
      replace z : Zs (g_one_ ++ (g_self__past_ ++ (g_self__shared_ ++ (gh_one_ ++ ([(a_self, HO.ins q_Works dx_self (ns_Works.zip [v_self__shared_, v_self__team_, v_self__past_]))] ++ amb))))) _ _ := z.go [g_self__past_, g_one_, g_self__shared_, gh_one_, [(a_self, HO.ins q_Works dx_self (ns_Works.zip [v_self__shared_, v_self__team_, v_self__past_]))]] amb [1, 0, 2, 3, 4]
      refine ⟨(g_self__past_ ++ (g_self__shared_ ++ (gh_one_ ++ ([(a_self, HO.ins q_Works dx_self (ns_Works.zip [v_self__shared_, v_self__team_, v_self__past_]))] ++ amb)))), _, _, _, _, rfl, z, d_one_, ?_⟩
      refine run_mono2 hw (fun t13 one_ hw v g_one_ H Ho e z d14 d_one_ => ?_)
      replace d14 : Z.D K Ho v t13 := d14
      replace d_one_ : OC_Hand K Ho u5 one_ g_one_ := d_one_
      replace d_self__past_ := OL.mo d_self__past_ e
      replace d_self__shared_ := OL.mo d_self__shared_ e
      replace oh_one_ := OLh.mo oh_one_ e
      replace d_told_ := D.mo d_told_ e
      have es16 := es12.trans e
      cases d14
      replace z : Zs (g_one_ ++ (gh_one_ ++ (g_self__past_ ++ (g_self__shared_ ++ ([(a_self, HO.ins q_Works dx_self (ns_Works.zip [v_self__shared_, v_self__team_, v_self__past_]))] ++ amb))))) _ _ := z.go [g_one_, g_self__past_, g_self__shared_, gh_one_, [(a_self, HO.ins q_Works dx_self (ns_Works.zip [v_self__shared_, v_self__team_, v_self__past_]))]] amb [0, 3, 1, 2, 4]
      refine o_fill oh_one_ d_one_ z (fun g17 z d18 => ?_)
      refine h_nmG (P := fun x => OLo OC_Hand K Ho v_self__team_ x g17) hw d18 (fun self__team_ d_self__team_ hw => ?_)
      refine y_ret ?_
      refine y_var rfl ?_
      replace z : Zs ([(a_self, HO.ins q_Works dx_self (ns_Works.zip [v_self__shared_, v_self__team_, v_self__past_]))] ++ (g_self__shared_ ++ (g17 ++ (g_self__past_ ++ amb)))) _ _ := z.go [g17, g_self__past_, g_self__shared_, [(a_self, HO.ins q_Works dx_self (ns_Works.zip [v_self__shared_, v_self__team_, v_self__past_]))]] amb [3, 2, 0, 1]
      refine OC_Works.cl (x := (⟨self__shared_, self__team_, self__past_⟩ : ObWorks)) cf_Works d_self__shared_ d_self__team_ d_self__past_ z (fun g19 d20 z => ?_)
      exact (run_ret hw) _ _ _ _ es16 z d_told_ d20
def sp_Works_cells (K : PySem.W.Frag) (cl : Nat → Addr) : Sp := fun vs H Q E => ∃ (amb : Grp) (Ho : Hp) (v0 : V) (x0 : ObWorks), vs = [v0] ∧ Zs amb H Ho ∧ Z.D K Ho v0 x0 ∧ (m_Works_cells x0).run fun r => ∀ v g H' Ho', Same Ho Ho' → Zs (g ++ amb) H' Ho' → OL K Ho' v r g → Q v H'
abbrev s_Works_cells : Stmt := inClass (topS 20) 2
theorem sc_Works_cells : FnScope ["self"] ["self"] (defScope s_Works_cells) := ⟨rfl, rfl, rfl, by decide +kernel, rfl, by decide +kernel, by decide +kernel⟩
theorem ok_Works_cells {f : Addr} {fd : FuncData} (F : Fun K "cells" "Works.cells" s_Works_cells f fd) {q_Works : Addr} (m_list : mg "list" = none) (cf_Works : CF K q_Works "Works" ns_Works) :
    FnOk P w K mg base CX0 1 f fd ["self"] (sp_Works_cells K cl) := by
  refine F.ok sc_Works_cells (fun vs H Q E h => ?_) (fun cdv A outer s H vs Q E hr h => ?_)
  · obtain ⟨amb, Ho, v_self_, self_, rfl, _⟩ := h
    rfl
  · obtain ⟨amb, Ho, v_self_, self_, rfl, z, d_self_, hw⟩ := h
    refine ⟨_, pss_cons (ps_ret (pe_callTy (zlist (K := K) rfl) (by rfl) m_list (by decide +kernel) (pa_cons (zpe_fld (K := K) rfl (pv 0) rfl) (pa_nil)))) (pss_nil), ?_⟩
    refine y_ret ?_
    refine y_cb ?_
    refine y_cons ?_
    refine y_fld ?_
    refine y_var rfl ?_
    refine o_fldD (i := 0) (x := self_) (w := self_.shared) cf_Works d_self_ rfl z rfl rfl (fun w d1 => ?_)
    refine y_nil ?_
    refine y_list (LV.of d1) z (fun H p2 ws3 z d4 => ?_)
    replace z : Zs ([(p2, HO.lst ws3)] ++ amb) H Ho := z
    have o5 := OL.mk (p := p2) d4
    exact (run_ret hw) _ _ _ _ (Same.refl _) z o5
def sp_hand_of_D (K : PySem.W.Frag) (cl : Nat → Addr) : Sp := fun vs H Q E => ∃ (amb : Grp) (Ho : Hp) (v0 : V) (x0 : (List ObHand)) (v1 : V) (x1 : Int), vs = [v0, v1] ∧ Zs amb H Ho ∧ Z.D K Ho v0 x0 ∧ Z.D K Ho v1 x1 ∧ (m_hand_of_D x0 x1).run fun r => ∀ v H' Ho', Same Ho Ho' → Zs amb H' Ho' → Z.D K Ho' v r → Q v H'
abbrev s_hand_of_D : Stmt := topS 17
theorem sc_hand_of_D : FnScope ["team", "number"] ["team", "number"] (defScope s_hand_of_D) := ⟨rfl, rfl, rfl, by decide +kernel, rfl, by decide +kernel, by decide +kernel⟩
theorem ok_hand_of_D {f : Addr} {fd : FuncData} (F : Fun K "hand_of" "hand_of" s_hand_of_D f fd) (m_len : mg "len" = none) :
    FnOk P w K mg base CX0 1 f fd ["team", "number"] (sp_hand_of_D K cl) := by
  refine F.ok sc_hand_of_D (fun vs H Q E h => ?_) (fun cdv A outer s H vs Q E hr h => ?_)
  · obtain ⟨amb, Ho, v_team_, team_, v_number_, number_, rfl, _⟩ := h
    rfl
  · obtain ⟨amb, Ho, v_team_, team_, v_number_, number_, rfl, z, d_team_, d_number_, hw⟩ := h
    refine ⟨_, pss_cons (ps_if (PW.pt (pw_or (pt_cmpR (op_lt) (pv 1) (pe_int) (nomark _)) (pw_or1 (pt_cmpR (op_ge) (pv 1) (pe_callB (zlen (K := K) rfl) (by rfl) m_len (by decide +kernel) (pa_cons (pv 0) (pa_nil))) (nomark _))))) (pss_cons (ps_never) (pss_nil)) (pss_nil)) (pss_cons (ps_ret (pe_ix (zix_list (K := K) rfl) (pv 0) (pv 1) (fun _ _ => rfl))) (pss_nil)), ?_⟩
    obtain rfl := d_int d_number_
    refine y_ifS ?_
    refine y_or ?_
    refine y_test ?_
    refine y_op ?_
    refine y_var rfl ?_
    refine y_c ?_
    refine y_i0 ?_
    refine ⟨_, rfl, ?_⟩
    refine w_orP (a := (decide (number_ < (0 : Int)))) (decide (number_ ≥ ((team_).length : Int))) (fun hb hq => ?_) ?_
    · refine y_test ?_
      refine y_op ?_
      refine y_var rfl ?_
      refine y_cb ?_
      refine y_cons ?_
      refine y_var rfl ?_
      refine y_nil ?_
      refine y_len (LV.of d_team_) z ?_
      refine y_i0 ?_
      refine ⟨_, rfl, ?_⟩
      exact hq
    refine y_cases hw (fun hb hw => ?_) (fun hb hw => ?_)
    · exact hw.elim
    · refine y_nxS ?_
      refine y_ret ?_
      refine y_op ?_
      refine y_var rfl ?_
      refine y_var rfl ?_
      refine y_ixL (LV.of d_team_) z hw (fun t1 w d2 hw => ?_)
      exact (run_ret hw) _ _ _ (Same.refl _) z d2
def sp_Works_boxes (K : PySem.W.Frag) (cl : Nat → Addr) : Sp := fun vs H Q E => ∃ (amb : Grp) (Ho : Hp) (v0 : V) (x0 : ObWorks) (v1 : V) (x1 : Int), vs = [v0, v1] ∧ Zs amb H Ho ∧ Z.D K Ho v0 x0 ∧ Z.D K Ho v1 x1 ∧ (m_Works_boxes x0 x1).run fun r => ∀ v g H' Ho', Same Ho Ho' → Zs (g ++ amb) H' Ho' → OL K Ho' v r g → Q v H'
abbrev s_Works_boxes : Stmt := inClass (topS 20) 3
theorem sc_Works_boxes : FnScope ["self", "hand"] ["self", "hand"] (defScope s_Works_boxes) := ⟨rfl, rfl, rfl, by decide +kernel, rfl, by decide +kernel, by decide +kernel⟩
theorem ok_Works_boxes {f : Addr} {fd : FuncData} (F : Fun K "boxes" "Works.boxes" s_Works_boxes f fd) {q_Works q_Hand : Addr} {f_hand_of_D : Addr} {fd_hand_of_D : FuncData} (c_hand_of_D : Cal P w K mg base CX0 "hand_of" ["team", "number"] 1 (sp_hand_of_D K cl) f_hand_of_D fd_hand_of_D) (m_list : mg "list" = none) (cf_Works : CF K q_Works "Works" ns_Works) (cf_Hand : CF K q_Hand "Hand" ns_Hand) :
    FnOk P w K mg base CX0 2 f fd ["self", "hand"] (sp_Works_boxes K cl) := by
  refine F.ok sc_Works_boxes (fun vs H Q E h => ?_) (fun cdv A outer s H vs Q E hr h => ?_)
  · obtain ⟨amb, Ho, v_self_, self_, v_hand_, hand_, rfl, _⟩ := h
    rfl
  · obtain ⟨amb, Ho, v_self_, self_, v_hand_, hand_, rfl, z, d_self_, d_hand_, hw⟩ := h
    refine ⟨_, pss_cons (ps_ret (pe_callTy (zlist (K := K) rfl) (by rfl) m_list (by decide +kernel) (pa_cons (zpe_fld (K := K) rfl (pe_call c_hand_of_D.ok (hr.mono (by decide)) (by rfl) c_hand_of_D.g c_hand_of_D.kp c_hand_of_D.b .nil pass0 (pa_cons (zpe_fld (K := K) rfl (pv 0) rfl) (pa_cons (pv 1) (pa_nil)))) rfl) (pa_nil)))) (pss_nil), ?_⟩
    obtain rfl := d_int d_hand_
    refine y_ret ?_
    refine y_cb ?_
    refine y_cons ?_
    refine y_fld ?_
    refine y_call ?_
    refine y_cons ?_
    refine y_fld ?_
    refine y_var rfl ?_
    refine o_fldD (i := 1) (x := self_) (w := self_.team) cf_Works d_self_ rfl z rfl rfl (fun w d1 => ?_)
    refine y_cons ?_
    refine y_var rfl ?_
    refine y_nil ?_
    refine ⟨amb, _, _, _, _, _, rfl, z, d1, (Dq.int _), ?_⟩
    refine run_mono3 hw (fun t2 hw v H Ho e z d3 => ?_)
    replace d_self_ := D.mo d_self_ e
    have es5 := (Same.refl _).trans e
    refine o_fldD (i := 2) (x := t2) (w := t2.held) cf_Hand d3 rfl z rfl rfl (fun w d6 => ?_)
    refine y_nil ?_
    refine y_list (LV.of d6) z (fun H p7 ws8 z d9 => ?_)
    replace z : Zs ([(p7, HO.lst ws8)] ++ amb) H Ho := z
    have o10 := OL.mk (p := p7) d9
    exact (run_ret hw) _ _ _ _ es5 z o10
def sp_Works_said (K : PySem.W.Frag) (cl : Nat → Addr) : Sp := fun vs H Q E => ∃ (amb : Grp) (Ho : Hp) (v0 : V) (x0 : ObWorks) (v1 : V) (x1 : Int), vs = [v0, v1] ∧ Zs amb H Ho ∧ Z.D K Ho v0 x0 ∧ Z.D K Ho v1 x1 ∧ (m_Works_said x0 x1).run fun r => ∀ v g H' Ho', Same Ho Ho' → Zs (g ++ amb) H' Ho' → OL K Ho' v r g → Q v H'
abbrev s_Works_said : Stmt := inClass (topS 20) 4
theorem sc_Works_said : FnScope ["self", "hand"] ["self", "hand"] (defScope s_Works_said) := ⟨rfl, rfl, rfl, by decide +kernel, rfl, by decide +kernel, by decide +kernel⟩
theorem ok_Works_said {f : Addr} {fd : FuncData} (F : Fun K "said" "Works.said" s_Works_said f fd) {q_Works q_Hand : Addr} {f_hand_of_D : Addr} {fd_hand_of_D : FuncData} (c_hand_of_D : Cal P w K mg base CX0 "hand_of" ["team", "number"] 1 (sp_hand_of_D K cl) f_hand_of_D fd_hand_of_D) (m_list : mg "list" = none) (cf_Works : CF K q_Works "Works" ns_Works) (cf_Hand : CF K q_Hand "Hand" ns_Hand) :
    FnOk P w K mg base CX0 2 f fd ["self", "hand"] (sp_Works_said K cl) := by
  refine F.ok sc_Works_said (fun vs H Q E h => ?_) (fun cdv A outer s H vs Q E hr h => ?_)
  · obtain ⟨amb, Ho, v_self_, self_, v_hand_, hand_, rfl, _⟩ := h
    rfl
  · obtain ⟨amb, Ho, v_self_, self_, v_hand_, hand_, rfl, z, d_self_, d_hand_, hw⟩ := h
    refine ⟨_, pss_cons (ps_ret (pe_callTy (zlist (K := K) rfl) (by rfl) m_list (by decide +kernel) (pa_cons (zpe_fld (K := K) rfl (pe_call c_hand_of_D.ok (hr.mono (by decide)) (by rfl) c_hand_of_D.g c_hand_of_D.kp c_hand_of_D.b .nil pass0 (pa_cons (zpe_fld (K := K) rfl (pv 0) rfl) (pa_cons (pv 1) (pa_nil)))) rfl) (pa_nil)))) (pss_nil), ?_⟩
    obtain rfl := d_int d_hand_
    refine y_ret ?_
    refine y_cb ?_
    refine y_cons ?_
    refine y_fld ?_
    refine y_call ?_
    refine y_cons ?_
    refine y_fld ?_
    refine y_var rfl ?_
    refine o_fldD (i := 1) (x := self_) (w := self_.team) cf_Works d_self_ rfl z rfl rfl (fun w d1 => ?_)
    refine y_cons ?_
    refine y_var rfl ?_
    refine y_nil ?_
    refine ⟨amb, _, _, _, _, _, rfl, z, d1, (Dq.int _), ?_⟩
    refine run_mono3 hw (fun t2 hw v H Ho e z d3 => ?_)
    replace d_self_ := D.mo d_self_ e
    have es5 := (Same.refl _).trans e
    refine o_fldD (i := 3) (x := t2) (w := t2.spoken) cf_Hand d3 rfl z rfl rfl (fun w d6 => ?_)
    refine y_nil ?_
    refine y_list (LV.of d6) z (fun H p7 ws8 z d9 => ?_)
    replace z : Zs ([(p7, HO.lst ws8)] ++ amb) H Ho := z
    have o10 := OL.mk (p := p7) d9
    exact (run_ret hw) _ _ _ _ es5 z o10
def sp_Works_how (K : PySem.W.Frag) (cl : Nat → Addr) : Sp := fun vs H Q E => ∃ (amb : Grp) (Ho : Hp) (v0 : V) (x0 : ObWorks) (v1 : V) (x1 : Int), vs = [v0, v1] ∧ Zs amb H Ho ∧ Z.D K Ho v0 x0 ∧ Z.D K Ho v1 x1 ∧ (m_Works_how x0 x1).run fun r => ∀ v H' Ho', Same Ho Ho' → Zs amb H' Ho' → Z.D K Ho' v r → Q v H'
abbrev s_Works_how : Stmt := inClass (topS 20) 5
theorem sc_Works_how : FnScope ["self", "hand"] ["self", "hand"] (defScope s_Works_how) := ⟨rfl, rfl, rfl, by decide +kernel, rfl, by decide +kernel, by decide +kernel⟩
theorem ok_Works_how {f : Addr} {fd : FuncData} (F : Fun K "how" "Works.how" s_Works_how f fd) {q_Works q_Hand : Addr} {f_hand_of_D : Addr} {fd_hand_of_D : FuncData} (c_hand_of_D : Cal P w K mg base CX0 "hand_of" ["team", "number"] 1 (sp_hand_of_D K cl) f_hand_of_D fd_hand_of_D) (cf_Works : CF K q_Works "Works" ns_Works) (cf_Hand : CF K q_Hand "Hand" ns_Hand) :
    FnOk P w K mg base CX0 2 f fd ["self", "hand"] (sp_Works_how K cl) := by
  refine F.ok sc_Works_how (fun vs H Q E h => ?_) (fun cdv A outer s H vs Q E hr h => ?_)
  · obtain ⟨amb, Ho, v_self_, self_, v_hand_, hand_, rfl, _⟩ := h
    rfl
  · obtain ⟨amb, Ho, v_self_, self_, v_hand_, hand_, rfl, z, d_self_, d_hand_, hw⟩ := h
    refine ⟨_, pss_cons (ps_ret (zpe_fld (K := K) rfl (pe_call c_hand_of_D.ok (hr.mono (by decide)) (by rfl) c_hand_of_D.g c_hand_of_D.kp c_hand_of_D.b .nil pass0 (pa_cons (zpe_fld (K := K) rfl (pv 0) rfl) (pa_cons (pv 1) (pa_nil)))) rfl)) (pss_nil), ?_⟩
    obtain rfl := d_int d_hand_
    refine y_ret ?_
    refine y_fld ?_
    refine y_call ?_
    refine y_cons ?_
    refine y_fld ?_
    refine y_var rfl ?_
    refine o_fldD (i := 1) (x := self_) (w := self_.team) cf_Works d_self_ rfl z rfl rfl (fun w d1 => ?_)
    refine y_cons ?_
    refine y_var rfl ?_
    refine y_nil ?_
    refine ⟨amb, _, _, _, _, _, rfl, z, d1, (Dq.int _), ?_⟩
    refine run_mono3 hw (fun t2 hw v H Ho e z d3 => ?_)
    replace d_self_ := D.mo d_self_ e
    have es5 := (Same.refl _).trans e
    refine o_fldD (i := 4) (x := t2) (w := t2.way) cf_Hand d3 rfl z rfl rfl (fun w d6 => ?_)
    obtain rfl := d_str d6
    exact (run_ret hw) _ _ _ es5 z (Dq.str _)
def sp_Works___eq__ (K : PySem.W.Frag) (cl : Nat → Addr) : Sp := fun vs H Q E => ∃ (amb : Grp) (Ho : Hp) (v0 : V) (x0 : ObWorks) (v1 : V) (x1 : ObWorks), vs = [v0, v1] ∧ Zs amb H Ho ∧ Z.D K Ho v0 x0 ∧ Z.D K Ho v1 x1 ∧ (m_Works___eq__ x0 x1).run fun r => ∀ v H' Ho', Same Ho Ho' → Zs amb H' Ho' → Z.D K Ho' v r → Q v H'
abbrev s_Works___eq__ : Stmt := inClass (topS 20) 8
theorem sc_Works___eq__ : FnScope ["self", "other"] ["self", "other"] (defScope s_Works___eq__) := ⟨rfl, rfl, rfl, by decide +kernel, rfl, by decide +kernel, by decide +kernel⟩
theorem ok_Works___eq__ {f : Addr} {fd : FuncData} (F : Fun K "__eq__" "Works.__eq__" s_Works___eq__ f fd) {q_Works : Addr} {f_likeness : Addr} {fd_likeness : FuncData} (c_likeness : Cal P w K mg base CX0 "likeness" ["works"] 2 (sp_likeness K cl) f_likeness fd_likeness) (m_isinstance : mg "isinstance" = none) (cf_Works : CF K q_Works "Works" ns_Works) (ci_Works : CI K q_Works) (gc_Works : mg "Works" = some (.ref q_Works)) :
    FnOk P w K mg base CX0 3 f fd ["self", "other"] (sp_Works___eq__ K cl) := by
  refine F.ok sc_Works___eq__ (fun vs H Q E h => ?_) (fun cdv A outer s H vs Q E hr h => ?_)
  · obtain ⟨amb, Ho, v_self_, self_, v_other_, other_, rfl, _⟩ := h
    rfl
  · obtain ⟨amb, Ho, v_self_, self_, v_other_, other_, rfl, z, d_self_, d_other_, hw⟩ := h
    refine ⟨_, pss_cons (ps_if (pt_not (pt_val (pe_callB (zisi (K := K) rfl) (by rfl) m_isinstance (by decide +kernel) (pa_cons (pv 1) (pa_cons (pe_glob (v := .ref q_Works) rfl gc_Works rfl) pa_nil))))) (pss_cons (ps_ret (pe_bl)) (pss_nil)) (pss_nil)) (pss_cons (ps_ret (pe_cmpR (zop_eqD (K := K) rfl hr.units) (pe_call c_likeness.ok (hr.mono (by decide)) (by rfl) c_likeness.g c_likeness.kp c_likeness.b .nil pass0 (pa_cons (pv 0) (pa_nil))) (pe_call c_likeness.ok (hr.mono (by decide)) (by rfl) c_likeness.g c_likeness.kp c_likeness.b .nil pass0 (pa_cons (pv 1) (pa_nil))) (nomark _))) (pss_nil)), ?_⟩
    refine y_ifS ?_
    refine y_not ?_
    refine y_tB ?_
    refine y_cb ?_
    refine y_cons ?_
    refine y_var rfl ?_
    refine y_cons (y_c (y_nil ?_))
    refine y_isiO' cf_Works ci_Works ?_
    refine o_metD cf_Works d_other_ rfl z (by decide +kernel) ?_
    refine ⟨_, rfl, ?_⟩
    refine y_cases hw (fun hb hw => ?_) (fun hb hw => ?_)
    · refine y_ret ?_
      refine y_c ?_
      exact (run_ret hw) _ _ _ (Same.refl _) z (Dq.bl _)
    · refine y_nxS ?_
      refine y_ret ?_
      refine y_op ?_
      refine y_call ?_
      refine y_cons ?_
      refine y_var rfl ?_
      refine y_nil ?_
      refine ⟨amb, _, _, _, rfl, z, d_self_, ?_⟩
      refine run_mono3 hw (fun t1 hw v H Ho e z d2 => ?_)
      replace d_other_ := D.mo d_other_ e
      replace d_self_ := D.mo d_self_ e
      have es4 := (Same.refl _).trans e
      refine y_call ?_
      refine y_cons ?_
      refine y_var rfl ?_
      refine y_nil ?_
      refine ⟨amb, _, _, _, rfl, z, d_other_, ?_⟩
      refine run_mono3 hw (fun t5 hw v H Ho e z d6 => ?_)
      replace d_other_ := D.mo d_other_ e
      replace d_self_ := D.mo d_self_ e
      replace d2 := D.mo d2 e
      have es8 := es4.trans e
      refine y_eqD (D.mo d2 z.le) (D.mo d6 z.le) hw.1 ?_
      replace hw := (run_gd hw).2
      exact (run_ret hw) _ _ _ es8 z (Dq.bl _)
def sp_Works___len__ (K : PySem.W.Frag) (cl : Nat → Addr) : Sp := fun vs H Q E => ∃ (amb : Grp) (Ho : Hp) (v0 : V) (x0 : ObWorks), vs = [v0] ∧ Zs amb H Ho ∧ Z.D K Ho v0 x0 ∧ (m_Works___len__ x0).run fun r => ∀ v H' Ho', Same Ho Ho' → Zs amb H' Ho' → Z.D K Ho' v r → Q v H'
abbrev s_Works___len__ : Stmt := inClass (topS 20) 9
theorem sc_Works___len__ : FnScope ["self"] ["self"] (defScope s_Works___len__) := ⟨rfl, rfl, rfl, by decide +kernel, rfl, by decide +kernel, by decide +kernel⟩
theorem ok_Works___len__ {f : Addr} {fd : FuncData} (F : Fun K "__len__" "Works.__len__" s_Works___len__ f fd) {q_Works : Addr} (m_len : mg "len" = none) (cf_Works : CF K q_Works "Works" ns_Works) :
    FnOk P w K mg base CX0 1 f fd ["self"] (sp_Works___len__ K cl) := by
  refine F.ok sc_Works___len__ (fun vs H Q E h => ?_) (fun cdv A outer s H vs Q E hr h => ?_)
  · obtain ⟨amb, Ho, v_self_, self_, rfl, _⟩ := h
    rfl
  · obtain ⟨amb, Ho, v_self_, self_, rfl, z, d_self_, hw⟩ := h
    refine ⟨_, pss_cons (ps_ret (pe_callB (zlen (K := K) rfl) (by rfl) m_len (by decide +kernel) (pa_cons (zpe_fld (K := K) rfl (pv 0) rfl) (pa_nil)))) (pss_nil), ?_⟩
    refine y_ret ?_
    refine y_cb ?_
    refine y_cons ?_
    refine y_fld ?_
    refine y_var rfl ?_
    refine o_fldD (i := 2) (x := self_) (w := self_.past) cf_Works d_self_ rfl z rfl rfl (fun w d1 => ?_)
    refine y_nil ?_
    refine y_len (LV.of d1) z ?_
    exact (run_ret hw) _ _ _ (Same.refl _) z (Dq.int _)
def sp_law_reel (K : PySem.W.Frag) (cl : Nat → Addr) : Sp := fun vs H Q E => ∃ (amb : Grp) (Ho : Hp) (v0 : V) (x0 : (List Int)), vs = [v0] ∧ Zs amb H Ho ∧ LV K amb Ho v0 x0 ∧ (m_law_reel x0).run fun r => ∀ v g H' Ho', Same Ho Ho' → Zs (g ++ amb) H' Ho' → OH K Ho' v r g → Q v H'
abbrev s_law_reel : Stmt := topS 22
theorem sc_law_reel : FnScope ["script", "stir", "cell", "great"] ["script"] (defScope s_law_reel) := ⟨rfl, rfl, rfl, by decide +kernel, rfl, by decide +kernel, by decide +kernel⟩
theorem ok_law_reel {f : Addr} {fd : FuncData} (F : Fun K "_law_reel" "_law_reel" s_law_reel f fd) :
    FnOk P w K mg base CX0 1 f fd ["script"] (sp_law_reel K cl) := by
  refine F.ok sc_law_reel (fun vs H Q E h => ?_) (fun cdv A outer s H vs Q E hr h => ?_)
  · obtain ⟨amb, Ho, v_script_, script_, rfl, _⟩ := h
    rfl
  · obtain ⟨amb, Ho, v_script_, script_, rfl, z, d_script_, hw⟩ := h
    refine ⟨_, pss_cons (ps_set (i := 1) sc_law_reel.nd rfl (Or.inl rfl) (pe_op op_pow (pe_int) (pe_int))) (pss_cons (ps_for PassesOwn.never rfl (zpi_list (K := K) rfl (pe_slice (zsl_list (K := K) rfl) (pv 0) po_none (po_some (pe_int)))) (pg_name (i := 2) sc_law_reel.nd rfl (Or.inl rfl)) (pss_cons (ps_set (i := 1) sc_law_reel.nd rfl (Or.inl rfl) (pe_op op_mod (pe_op op_add (pe_op op_add (pe_op op_mulW (pv 1) (pv 1)) (pe_op op_mod (pv 2) (pe_int))) (pe_int)) (pe_op op_sub (pe_op op_mulW (pe_op op_pow (pe_int) (pe_int)) (pe_op op_pow (pe_int) (pe_int))) (pe_int)))) (pss_nil))) (pss_cons (ps_setLc (i := 3) (own := [("cell", 2)]) rfl sc_law_reel.nd rfl rfl (sw_true rfl rfl rfl (by decide +kernel)) (zpi_list (K := K) rfl (pe_slice (zsl_list (K := K) rfl) (pv 0) po_none (po_some (pe_int)))) (blkOk_by (N := ["script", "stir", "cell", "great"]) (sc := defScope s_law_reel) (by decide +kernel)) (fun _ _ _ _ _ => pg_name (i := 2) sc_law_reel.nd rfl (Or.inl rfl)) (fun _ _ _ _ _ => pts_one (pt_cmpR (op_ge) (pv 2) (pe_op op_pow (pe_int) (pe_int)) (nomark _))) (fun _ _ _ _ _ => pe_op op_sub (pv 2) (pe_op op_pow (pe_int) (pe_int)))) (pss_cons (ps_ret (pe_lst (pa_cons (pv 3) (pa_cons (pe_op (zop_catS (K := K) rfl) (pe_lc (own := [("cell", 2)]) rfl sc_law_reel.nd (zpi_list (K := K) rfl (pe_slice (zsl_list (K := K) rfl) (pv 0) po_none (po_some (pe_int)))) (blkOk_by (N := ["script", "stir", "cell", "great"]) (sc := defScope s_law_reel) (by decide +kernel)) (fun _ _ _ _ _ => pg_name (i := 2) sc_law_reel.nd rfl (Or.inl rfl)) (fun _ _ _ _ _ => pts_nil) (fun _ _ _ _ _ => pe_op op_mod (pv 2) (pe_int))) (pe_lst (pa_cons (pe_int) (pa_nil)))) (pa_cons (pe_int) (pa_cons (pv 1) (pa_nil))))))) (pss_nil)))), ?_⟩
    refine l_asg (fun v => [_, some v, _, _]) (fun _ => rfl) ?_
    refine y_op ?_
    refine y_c ?_
    refine y_c ?_
    refine y_ig hw.1 ?_
    replace hw := (run_gd hw).2
    refine l_i hw (fun stir_ hw => ?_)
    refine y_for ?_
    refine k_iList ?_
    refine y_sl ?_
    refine y_var rfl ?_
    refine y_noPart ?_
    refine y_part ?_
    refine y_c ?_
    refine ⟨_, rfl, ?_⟩
    refine y_slL (LV.sub d_script_ mgE) z (fun H p1 ws2 z d3 => ?_)
    replace z : Zs ([(p1, HO.lst ws2)] ++ amb) H Ho := z
    have o4 := OL.mk (p := p1) d3
    refine k_srcL (r0 := [(p1, HO.lst ws2)]) (OL.lv o4 mgE) mg0 z (fun J T => ?_)
    refine y_forL T hw (fun (s : Int) (σ : L2.St) (H Ho : Hp) => ∃ (y_cell_ : Option V), σ = [some v_script_, some (V.int s), y_cell_, none] ∧ Zs ([(p1, HO.lst ws2)] ++ amb) H Ho) ⟨_, rfl, z⟩ ?_ ?_ ?_ ?_
    · intro s σ H Ho hI
      obtain ⟨y_cell_, rfl, z⟩ := hI
      exact ⟨_, z, mg0⟩
    · intro s σ H Ho H2 Ho2 hI e t
      obtain ⟨y_cell_, rfl, z⟩ := hI
      exact ⟨_, rfl, t _ z⟩
    · intro cell_ v_cell_ s σ H Ho N e hI d_cell_ hw
      obtain ⟨stir_, rfl⟩ : ∃ q, q = s := ⟨_, rfl⟩
      obtain ⟨y_cell_, rfl, z⟩ := hI
      replace d_script_ := LV.mo d_script_ e
      have es5 := (Same.refl _).trans e
      obtain rfl := d_int d_cell_
      refine y_gname (σ' := [some v_script_, some (V.int stir_), some (V.int cell_), none]) rfl ?_
      refine l_asg (fun v => [_, some v, _, _]) (fun _ => rfl) ?_
      refine y_op ?_
      refine y_op ?_
      refine y_op ?_
      refine y_op ?_
      refine y_var rfl ?_
      refine y_var rfl ?_
      refine y_ig hw.1 ?_
      replace hw := (run_gd hw).2
      refine y_op ?_
      refine y_var rfl ?_
      refine y_c ?_
      refine y_ig (by decide) ?_
      refine y_i0 ?_
      refine y_c ?_
      refine y_i0 ?_
      refine y_op ?_
      refine y_op ?_
      refine y_op ?_
      refine y_c ?_
      refine y_c ?_
      refine y_ig hw.1 ?_
      replace hw := (run_gd hw).2
      refine y_op ?_
      refine y_c ?_
      refine y_c ?_
      refine y_ig hw.1 ?_
      replace hw := (run_gd hw).2
      refine y_ig hw.1 ?_
      replace hw := (run_gd hw).2
      refine y_c ?_
      refine y_i0 ?_
      refine y_ig hw.1 ?_
      replace hw := (run_gd hw).2
      refine l_i hw (fun stir_ hw => ?_)
      exact (run_ret hw) _ _ _ (Same.refl _) ⟨_, rfl, z⟩
    intro s σ H Ho e hI hw
    obtain ⟨stir_, rfl⟩ : ∃ q, q = s := ⟨_, rfl⟩
    obtain ⟨y_cell_, rfl, z⟩ := hI
    replace d_script_ := LV.mo d_script_ e
    have es6 := (Same.refl _).trans e
    replace z : Zs amb _ _ := z.go [[(p1, HO.lst ws2)]] amb []
    refine l_asg (fun v => [_, _, _, some v]) (fun _ => rfl) ?_
    refine y_lc ?_
    refine k_iList ?_
    refine y_sl ?_
    refine y_var rfl ?_
    refine y_noPart ?_
    refine y_part ?_
    refine y_c ?_
    refine ⟨_, rfl, ?_⟩
    refine y_slL (LV.sub d_script_ mgE) z (fun H p7 ws8 z d9 => ?_)
    replace z : Zs ([(p7, HO.lst ws8)] ++ amb) H Ho := z
    have o10 := OL.mk (p := p7) d9
    refine k_srcL (r0 := [(p7, HO.lst ws8)]) (OL.lv o10 mgE) mg0 z (fun J T => ?_)
    refine y_lcG z mg0 T hw (fun r11 cell_ v_cell_ H Ho N N' e z d_cell_ hw => ?_) (fun t16 H Ho e hw p13 ws14 z d15 => ?_)
    · replace z : Zs ([r11] ++ ([(p7, HO.lst ws8)] ++ amb)) H Ho := z
      replace d_script_ := LV.mo d_script_ e
      have es12 := es6.trans e
      obtain rfl := d_int d_cell_
      refine y_gname (σ' := [some v_script_, some (V.int stir_), some (V.int cell_), none]) rfl ?_
      refine ⟨rfl, ?_⟩
      refine y_test ?_
      refine y_op ?_
      refine y_var rfl ?_
      refine y_op ?_
      refine y_c ?_
      refine y_c ?_
      refine y_ig hw.1 ?_
      replace hw := (run_gd hw).2
      refine y_i0 ?_
      refine ⟨_, rfl, ?_⟩
      refine w_two (fun hb => ?_) (fun hb => ?_)
      · replace hw := run_itT (run_ret hw) hb
        refine y_op ?_
        refine y_var rfl ?_
        refine y_op ?_
        refine y_c ?_
        refine y_c ?_
        refine y_ig hw.1 ?_
        replace hw := (run_gd hw).2
        refine y_i0 ?_
        exact (run_ret hw) _ _ _ (Same.refl _) z (Dq.int _)
      · exact run_itF (run_ret hw) hb _ _ (Same.refl _) z
    replace d_script_ := LV.mo d_script_ e
    have es17 := es6.trans e
    replace z : Zs ([(p13, HO.lst ws14)] ++ ([(p7, HO.lst ws8)] ++ amb)) H Ho := z
    have o18 := OL.mk (p := p13) d15
    refine l_fr o18 z (fun Ho e z d19 => ?_)
    replace d_script_ := LV.mo d_script_ e
    have es20 := es17.trans e
    refine l_d (K := K) (Ho := Ho) hw d19 (fun great_ v_great_ d_great_ hw => ?_)
    replace z : Zs amb _ _ := z.go [[(p7, HO.lst ws8)]] amb []
    refine y_ret ?_
    refine k_lst ?_
    refine y_cons ?_
    refine y_var rfl ?_
    refine y_cons ?_
    refine y_op ?_
    refine y_lc ?_
    refine k_iList ?_
    refine y_sl ?_
    refine y_var rfl ?_
    refine y_noPart ?_
    refine y_part ?_
    refine y_c ?_
    refine ⟨_, rfl, ?_⟩
    refine y_slL (LV.sub d_script_ mgE) z (fun H p21 ws22 z d23 => ?_)
    replace z : Zs ([(p21, HO.lst ws22)] ++ amb) H Ho := z
    have o24 := OL.mk (p := p21) d23
    refine k_srcL (r0 := [(p21, HO.lst ws22)]) (OL.lv o24 mgE) mg0 z (fun J T => ?_)
    refine y_lcG z mg0 T hw (fun r25 cell_ v_cell_ H Ho N N' e z d_cell_ hw => ?_) (fun t30 H Ho e hw p27 ws28 z d29 => ?_)
    · replace z : Zs ([r25] ++ ([(p21, HO.lst ws22)] ++ amb)) H Ho := z
      replace d_great_ := D.mo d_great_ e
      replace d_script_ := LV.mo d_script_ e
      have es26 := es20.trans e
      obtain rfl := d_int d_cell_
      refine y_gname (σ' := [some v_script_, some (V.int stir_), some (V.int cell_), some v_great_]) rfl ?_
      refine ⟨rfl, ?_⟩
      refine y_yes (w_t ?_)
      replace hw := run_itT (run_bret hw) rfl
      refine y_op ?_
      refine y_var rfl ?_
      refine y_c ?_
      refine y_ig (by decide) ?_
      exact (run_ret hw) _ _ _ (Same.refl _) z (Dq.int _)
    replace d_great_ := D.mo d_great_ e
    replace d_script_ := LV.mo d_script_ e
    have es31 := es20.trans e
    replace z : Zs ([(p27, HO.lst ws28)] ++ ([(p21, HO.lst ws22)] ++ amb)) H Ho := z
    have o32 := OL.mk (p := p27) d29
    refine k_lst ?_
    refine y_cons ?_
    refine y_c ?_
    refine y_nil ?_
    refine k_lstk (K := K) (xs := ([(41 : Int)] : (List Int))) z (DqAll.cons (Dq.int _) DqAll.nil) (by show 1 ≤ sizeLine; decide) (fun H p33 ws34 z d35 => ?_)
    replace z : Zs ([(p33, HO.lst ws34)] ++ ([(p27, HO.lst ws28)] ++ ([(p21, HO.lst ws22)] ++ amb))) H Ho := z
    have o36 := OL.mk (p := p33) d35
    refine y_cat (OL.lv o32 (mgS mg0)) (OL.lv o36 mg0) z hw.1 (fun H p37 ws38 z d39 => ?_)
    replace hw := (run_gd hw).2
    replace z : Zs ([(p37, HO.lst ws38)] ++ ([(p33, HO.lst ws34)] ++ ([(p27, HO.lst ws28)] ++ ([(p21, HO.lst ws22)] ++ amb)))) H Ho := z
    have o40 := OL.mk (p := p37) d39
    refine y_cons ?_
    refine y_c ?_
    refine y_cons ?_
    refine y_var rfl ?_
    refine y_nil ?_
    refine l_fr o40 z (fun Ho e z d41 => ?_)
    replace d_great_ := D.mo d_great_ e
    replace d_script_ := LV.mo d_script_ e
    have es42 := es31.trans e
    refine k_hlst (K := K) (x := (⟨great_, (t30 ++ ([(41 : Int)] : (List Int))), (0 : Int), stir_⟩ : (H4 (List Int) (List Int) Int Int))) z (DqAll.cons d_great_ (DqAll.cons d41 (DqAll.cons (Dq.int _) (DqAll.cons (Dq.int _) DqAll.nil)))) (by show 4 ≤ sizeLine; decide) (fun H p45 g43 z o44 => ?_)
    replace z : Zs (g43 ++ amb) _ _ := z.go [g43, [(p33, HO.lst ws34)], [(p27, HO.lst ws28)], [(p21, HO.lst ws22)]] amb [0]
    exact (run_ret hw) _ _ _ _ es42 z o44
def sp_law_draw (K : PySem.W.Frag) (cl : Nat → Addr) : Sp := fun vs H Q E => ∃ (amb : Grp) (Ho : Hp) (v0 : V) (x0 : (H4 (List Int) (List Int) Int Int)) (g0 : Grp) (v1 : V) (x1 : Int), vs = [v0, v1] ∧ Zs (g0 ++ amb) H Ho ∧ OH K Ho v0 x0 g0 ∧ Z.D K Ho v1 x1 ∧ (m_law_draw x0 x1).run fun r => ∀ v h0 H' Ho', Same Ho Ho' → Zs (h0 ++ amb) H' Ho' → Z.D K Ho' v r.1 → OH K Ho' v0 r.2 h0 → Q v H'
abbrev s_law_draw : Stmt := topS 23
theorem sc_law_draw : FnScope ["reel", "many", "rest", "told", "stir"] ["reel", "many"] (defScope s_law_draw) := ⟨rfl, rfl, rfl, by decide +kernel, rfl, by decide +kernel, by decide +kernel⟩
theorem ok_law_draw {f : Addr} {fd : FuncData} (F : Fun K "_law_draw" "_law_draw" s_law_draw f fd) (m_int : mg "int" = none) (m_len : mg "len" = none) :
    FnOk P w K mg base CX0 1 f fd ["reel", "many"] (sp_law_draw K cl) := by
  refine F.ok sc_law_draw (fun vs H Q E h => ?_) (fun cdv A outer s H vs Q E hr h => ?_)
  · obtain ⟨amb, Ho, v_reel_, reel_, g_reel_, v_many_, many_, rfl, _⟩ := h
    rfl
  · obtain ⟨amb, Ho, v_reel_, reel_, g_reel_, v_many_, many_, rfl, z, d_reel_, d_many_, hw⟩ := h
    refine ⟨_, pss_cons (ps_if (pt_cmpR (zop_neD (K := K) rfl hr.units) (pe_ix (zix_list (K := K) rfl) (pv 0) (pe_int) (fun _ _ => rfl)) (pe_lst (pa_nil)) (nomark _)) (pss_cons (ps_set (i := 2) sc_law_draw.nd rfl (Or.inl rfl) (pe_ix (zix_list (K := K) rfl) (pe_ix (zix_list (K := K) rfl) (pv 0) (pe_int) (fun _ _ => rfl)) (pe_int) (fun _ _ => rfl))) (pss_cons (ps_asg (pe_op (zop_catS (K := K) rfl) (pe_op op_rep (pe_lst (pa_cons (pe_op op_fdivW (pv 2) (pv 1)) (pa_nil))) (pe_callTy call_int1 (by rfl) m_int (by decide +kernel) (pa_cons (pe_cmpR (op_ge) (pv 2) (pv 1) (nomark _)) (pa_nil)))) (pe_slice (zsl_list (K := K) rfl) (pe_ix (zix_list (K := K) rfl) (pv 0) (pe_int) (fun _ _ => rfl)) (po_some (pe_int)) po_none)) (pg_sub (pv 0) (pe_int) set_list)) (pss_cons (ps_ret (pe_op op_mod (pv 2) (pv 1))) (pss_nil)))) (pss_nil)) (pss_cons (ps_asg (pe_op op_add (pe_ix (zix_list (K := K) rfl) (pv 0) (pe_int) (fun _ _ => rfl)) (pe_int)) (pg_sub (pv 0) (pe_int) set_list)) (pss_cons (ps_set (i := 3) sc_law_draw.nd rfl (Or.inl rfl) (pe_ix (zix_list (K := K) rfl) (pe_ix (zix_list (K := K) rfl) (pv 0) (pe_int) (fun _ _ => rfl)) (pe_op op_mod (pe_ix (zix_list (K := K) rfl) (pv 0) (pe_int) (fun _ _ => rfl)) (pe_callB (zlen (K := K) rfl) (by rfl) m_len (by decide +kernel) (pa_cons (pe_ix (zix_list (K := K) rfl) (pv 0) (pe_int) (fun _ _ => rfl)) (pa_nil)))) (fun _ _ => rfl))) (pss_cons (ps_set (i := 4) sc_law_draw.nd rfl (Or.inl rfl) (pe_op op_add (pe_op op_add (pe_op op_mulW (pe_ix (zix_list (K := K) rfl) (pv 0) (pe_int) (fun _ _ => rfl)) (pe_ix (zix_list (K := K) rfl) (pv 0) (pe_int) (fun _ _ => rfl))) (pe_op op_mulW (pe_op op_add (pv 3) (pe_int)) (pe_int))) (pe_op op_mulW (pe_ix (zix_list (K := K) rfl) (pv 0) (pe_int) (fun _ _ => rfl)) (pe_int)))) (pss_cons (ps_asg (pe_op op_mod (pv 4) (pe_op op_sub (pe_op op_mulW (pe_op op_pow (pe_int) (pe_int)) (pe_op op_pow (pe_int) (pe_int))) (pe_int))) (pg_sub (pv 0) (pe_int) set_list)) (pss_cons (ps_ret (pe_op op_mod (pe_op op_fdivW (pe_ix (zix_list (K := K) rfl) (pv 0) (pe_int) (fun _ _ => rfl)) (pe_op op_pow (pe_int) (pe_int))) (pv 1))) (pss_nil)))))), ?_⟩
    obtain rfl := d_int d_many_
    refine y_ifS ?_
    refine y_test ?_
    refine y_op ?_
    refine y_op ?_
    refine y_var rfl ?_
    refine y_c ?_
    refine h_ix (y := reel_.a) d_reel_ z rfl (fun w d1 => ?_)
    refine k_lst ?_
    refine y_nil ?_
    refine k_lstk (K := K) (xs := ([] : (List Int))) z DqAll.nil (by show 0 ≤ sizeLine; decide) (fun H p2 ws3 z d4 => ?_)
    replace z : Zs ([(p2, HO.lst ws3)] ++ (g_reel_ ++ amb)) H Ho := z
    have o5 := OL.mk (p := p2) d4
    refine y_neD (D.mo d1 z.le) (LV.dp (OL.lv o5 mg0) z) hw.1 ?_
    replace hw := (run_gd hw).2
    refine ⟨_, rfl, ?_⟩
    refine y_cases hw (fun hb hw => ?_) (fun hb hw => ?_)
    · replace z : Zs (g_reel_ ++ amb) _ _ := z.go [[(p2, HO.lst ws3)], g_reel_] amb [1]
      refine l_asg (fun v => [_, _, some v, _, _]) (fun _ => rfl) ?_
      refine y_op ?_
      refine y_op ?_
      refine y_var rfl ?_
      refine y_c ?_
      refine h_ix (y := reel_.a) d_reel_ z rfl (fun w d6 => ?_)
      refine y_c ?_
      refine y_ixL (LV.of d6) z hw (fun t7 w d8 hw => ?_)
      obtain rfl := d_int d8
      refine l_i hw (fun rest_ hw => ?_)
      refine y_asgG ?_
      refine y_op ?_
      refine y_op ?_
      refine k_lst ?_
      refine y_cons ?_
      refine y_op ?_
      refine y_var rfl ?_
      refine y_var rfl ?_
      refine y_ig hw.1 ?_
      replace hw := (run_gd hw).2
      refine y_nil ?_
      refine k_lstk (K := K) (xs := ([(rest_ / many_)] : (List Int))) z (DqAll.cons (Dq.int _) DqAll.nil) (by show 1 ≤ sizeLine; decide) (fun H p9 ws10 z d11 => ?_)
      replace z : Zs ([(p9, HO.lst ws10)] ++ (g_reel_ ++ amb)) H Ho := z
      have o12 := OL.mk (p := p9) d11
      refine y_cb ?_
      refine y_cons ?_
      refine y_op ?_
      refine y_var rfl ?_
      refine y_var rfl ?_
      refine y_i0 ?_
      refine y_nil ?_
      refine Or.inr ⟨_, rfl, ?_⟩
      refine y_rep z d11 hw.1 (fun H p13 ws14 z d15 => ?_)
      replace hw := (run_gd hw).2
      replace z : Zs ([(p13, HO.lst ws14)] ++ (g_reel_ ++ amb)) H Ho := z
      have o16 := OL.mk (p := p13) d15
      refine y_sl ?_
      refine y_op ?_
      refine y_var rfl ?_
      refine y_c ?_
      replace z : Zs (g_reel_ ++ ([(p13, HO.lst ws14)] ++ amb)) _ _ := z.go [[(p13, HO.lst ws14)], g_reel_] amb [1, 0]
      refine h_ix (y := reel_.a) d_reel_ z rfl (fun w d17 => ?_)
      refine y_part ?_
      refine y_c ?_
      refine ⟨_, rfl, ?_⟩
      refine y_noPart ?_
      refine y_slL (LV.of d17) z (fun H p18 ws19 z d20 => ?_)
      replace z : Zs ([(p18, HO.lst ws19)] ++ (g_reel_ ++ ([(p13, HO.lst ws14)] ++ amb))) H Ho := z
      have o21 := OL.mk (p := p18) d20
      refine y_cat (OL.lv o16 (mgS (mgS mg0))) (OL.lv o21 mg0) z hw.1 (fun H p22 ws23 z d24 => ?_)
      replace hw := (run_gd hw).2
      replace z : Zs ([(p22, HO.lst ws23)] ++ ([(p18, HO.lst ws19)] ++ (g_reel_ ++ ([(p13, HO.lst ws14)] ++ amb)))) H Ho := z
      have o25 := OL.mk (p := p22) d24
      refine l_fr o25 z (fun Ho e z d26 => ?_)
      replace d_reel_ := OH.mo d_reel_ e
      have es27 := (Same.refl _).trans e
      refine y_gsub ?_
      refine y_var rfl ?_
      refine y_c ?_
      replace z : Zs (g_reel_ ++ ([(p18, HO.lst ws19)] ++ ([(p13, HO.lst ws14)] ++ amb))) _ _ := z.go [[(p18, HO.lst ws19)], g_reel_, [(p13, HO.lst ws14)]] amb [1, 0, 2]
      refine h_st (y := ({ reel_ with a := ((repL ([(rest_ / many_)] : (List Int)) (if (decide (rest_ ≥ many_)) then (1 : Int) else 0)) ++ (Z.cut reel_.a (some (1 : Int)) none)) } : (H4 (List Int) (List Int) Int Int))) z d_reel_ d26 rfl rfl (fun g_reel_ H z d_reel_ => ?_)
      refine h_nm hw d_reel_ (fun reel_ d_reel_ hw => ?_)
      replace z : Zs (g_reel_ ++ amb) _ _ := z.go [g_reel_, [(p18, HO.lst ws19)], [(p13, HO.lst ws14)]] amb [0]
      refine y_ret ?_
      refine y_op ?_
      refine y_var rfl ?_
      refine y_var rfl ?_
      refine y_ig hw.1 ?_
      replace hw := (run_gd hw).2
      exact (run_ret hw) _ _ _ _ es27 z (Dq.int _) d_reel_
    · refine y_nxS ?_
      replace z : Zs (g_reel_ ++ amb) _ _ := z.go [[(p2, HO.lst ws3)], g_reel_] amb [1]
      refine y_asgG ?_
      refine y_op ?_
      refine y_op ?_
      refine y_var rfl ?_
      refine y_c ?_
      refine h_ix (y := reel_.c) d_reel_ z rfl (fun w d28 => ?_)
      obtain rfl := d_int d28
      refine y_c ?_
      refine y_i0 ?_
      refine y_gsub ?_
      refine y_var rfl ?_
      refine y_c ?_
      refine h_st (y := ({ reel_ with c := (reel_.c + (1 : Int)) } : (H4 (List Int) (List Int) Int Int))) z d_reel_ (Dq.int _) rfl rfl (fun g_reel_ H z d_reel_ => ?_)
      refine h_nm hw d_reel_ (fun reel_ d_reel_ hw => ?_)
      refine l_asg (fun v => [_, _, _, some v, _]) (fun _ => rfl) ?_
      refine y_op ?_
      refine y_op ?_
      refine y_var rfl ?_
      refine y_c ?_
      refine h_ix (y := reel_.b) d_reel_ z rfl (fun w d29 => ?_)
      refine y_op ?_
      refine y_op ?_
      refine y_var rfl ?_
      refine y_c ?_
      refine h_ix (y := reel_.c) d_reel_ z rfl (fun w d30 => ?_)
      obtain rfl := d_int d30
      refine y_cb ?_
      refine y_cons ?_
      refine y_op ?_
      refine y_var rfl ?_
      refine y_c ?_
      refine h_ix (y := reel_.b) d_reel_ z rfl (fun w d31 => ?_)
      refine y_nil ?_
      refine y_len (LV.of d31) z ?_
      refine y_ig hw.1 ?_
      replace hw := (run_gd hw).2
      refine y_ixL (LV.of d29) z hw (fun t32 w d33 hw => ?_)
      obtain rfl := d_int d33
      refine l_i hw (fun told_ hw => ?_)
      refine l_asg (fun v => [_, _, _, _, some v]) (fun _ => rfl) ?_
      refine y_op ?_
      refine y_op ?_
      refine y_op ?_
      refine y_op ?_
      refine y_var rfl ?_
      refine y_c ?_
      refine h_ix (y := reel_.d) d_reel_ z rfl (fun w d34 => ?_)
      obtain rfl := d_int d34
      refine y_op ?_
      refine y_var rfl ?_
      refine y_c ?_
      refine h_ix (y := reel_.d) d_reel_ z rfl (fun w d35 => ?_)
      obtain rfl := d_int d35
      refine y_ig hw.1 ?_
      replace hw := (run_gd hw).2
      refine y_op ?_
      refine y_op ?_
      refine y_var rfl ?_
      refine y_c ?_
      refine y_i0 ?_
      refine y_c ?_
      refine y_ig hw.1 ?_
      replace hw := (run_gd hw).2
      refine y_i0 ?_
      refine y_op ?_
      refine y_op ?_
      refine y_var rfl ?_
      refine y_c ?_
      refine h_ix (y := reel_.c) d_reel_ z rfl (fun w d36 => ?_)
      obtain rfl := d_int d36
      refine y_c ?_
      refine y_ig hw.1 ?_
      replace hw := (run_gd hw).2
      refine y_i0 ?_
      refine l_i hw (fun stir_ hw => ?_)
      refine y_asgG ?_
      refine y_op ?_
      refine y_var rfl ?_
      refine y_op ?_
      refine y_op ?_
      refine y_op ?_
      refine y_c ?_
      refine y_c ?_
      refine y_ig hw.1 ?_
      replace hw := (run_gd hw).2
      refine y_op ?_
      refine y_c ?_
      refine y_c ?_
      refine y_ig hw.1 ?_
      replace hw := (run_gd hw).2
      refine y_ig hw.1 ?_
      replace hw := (run_gd hw).2
      refine y_c ?_
      refine y_i0 ?_
      refine y_ig hw.1 ?_
      replace hw := (run_gd hw).2
      refine y_gsub ?_
      refine y_var rfl ?_
      refine y_c ?_
      refine h_st (y := ({ reel_ with d := (stir_ % ((((2 : Int) ^ ((64 : Int)).toNat) * ((2 : Int) ^ ((63 : Int)).toNat)) - (1 : Int))) } : (H4 (List Int) (List Int) Int Int))) z d_reel_ (Dq.int _) rfl rfl (fun g_reel_ H z d_reel_ => ?_)
      refine h_nm hw d_reel_ (fun reel_ d_reel_ hw => ?_)
      refine y_ret ?_
      refine y_op ?_
      refine y_op ?_
      refine y_op ?_
      refine y_var rfl ?_
      refine y_c ?_
      refine h_ix (y := reel_.d) d_reel_ z rfl (fun w d37 => ?_)
      obtain rfl := d_int d37
      refine y_op ?_
      refine y_c ?_
      refine y_c ?_
      refine y_ig hw.1 ?_
      replace hw := (run_gd hw).2
      refine y_ig hw.1 ?_
      replace hw := (run_gd hw).2
      refine y_var rfl ?_
      refine y_ig hw.1 ?_
      replace hw := (run_gd hw).2
      exact (run_ret hw) _ _ _ _ (Same.refl _) z (Dq.int _) d_reel_
def sp_law_row (K : PySem.W.Frag) (cl : Nat → Addr) : Sp := fun vs H Q E => ∃ (amb : Grp) (Ho : Hp) (v0 : V) (x0 : (H4 (List Int) (List Int) Int Int)) (g0 : Grp) (v1 : V) (x1 : Int) (v2 : V) (x2 : Int) (v3 : V) (x3 : Int), vs = [v0, v1, v2, v3] ∧ Zs (g0 ++ amb) H Ho ∧ OH K Ho v0 x0 g0 ∧ Z.D K Ho v1 x1 ∧ Z.D K Ho v2 x2 ∧ Z.D K Ho v3 x3 ∧ (m_law_row x0 x1 x2 x3).run fun r => ∀ v h0 H' Ho', Same Ho Ho' → Zs (h0 ++ amb) H' Ho' → Z.D K Ho' v r.1 → OH K Ho' v0 r.2 h0 → Q v H'
abbrev s_law_row : Stmt := topS 24
theorem sc_law_row : FnScope ["reel", "at", "size", "many", "kind", "box", "to"] ["reel", "at", "size", "many"] (defScope s_law_row) := ⟨rfl, rfl, rfl, by decide +kernel, rfl, by decide +kernel, by decide +kernel⟩
theorem ok_law_row {f : Addr} {fd : FuncData} (F : Fun K "_law_row" "_law_row" s_law_row f fd) {f_law_draw : Addr} {fd_law_draw : FuncData} (c_law_draw : Cal P w K mg base CX0 "_law_draw" ["reel", "many"] 1 (sp_law_draw K cl) f_law_draw fd_law_draw) :
    FnOk P w K mg base CX0 2 f fd ["reel", "at", "size", "many"] (sp_law_row K cl) := by
  refine F.ok sc_law_row (fun vs H Q E h => ?_) (fun cdv A outer s H vs Q E hr h => ?_)
  · obtain ⟨amb, Ho, v_reel_, reel_, g_reel_, v_at_, at_, v_size_, size_, v_many_, many_, rfl, _⟩ := h
    rfl
  · obtain ⟨amb, Ho, v_reel_, reel_, g_reel_, v_at_, at_, v_size_, size_, v_many_, many_, rfl, z, d_reel_, d_at_, d_size_, d_many_, hw⟩ := h
    refine ⟨_, pss_cons (ps_set (i := 4) sc_law_row.nd rfl (Or.inl rfl) (pe_call c_law_draw.ok (hr.mono (by decide)) (by rfl) c_law_draw.g c_law_draw.kp c_law_draw.b .nil pass0 (pa_cons (pv 0) (pa_cons (pe_int) (pa_nil))))) (pss_cons (ps_set (i := 5) sc_law_row.nd rfl (Or.inl rfl) (pe_ix ix_str (pe_str) (pe_call c_law_draw.ok (hr.mono (by decide)) (by rfl) c_law_draw.g c_law_draw.kp c_law_draw.b .nil pass0 (pa_cons (pv 0) (pa_cons (pe_int) (pa_nil)))) (fun _ _ => rfl))) (pss_cons (ps_set (i := 6) sc_law_row.nd rfl (Or.inl rfl) (pe_op op_add (pv 1) (pe_call c_law_draw.ok (hr.mono (by decide)) (by rfl) c_law_draw.g c_law_draw.kp c_law_draw.b .nil pass0 (pa_cons (pv 0) (pa_cons (pe_op op_add (pv 2) (pe_int)) (pa_nil)))))) (pss_cons (ps_if (pt_cmpR (op_gt) (pv 4) (pe_int) (nomark _)) (pss_cons (ps_ret (pe_tup (pa_cons (pe_str) (pa_cons (pv 5) (pa_cons (pe_call c_law_draw.ok (hr.mono (by decide)) (by rfl) c_law_draw.g c_law_draw.kp c_law_draw.b .nil pass0 (pa_cons (pv 0) (pa_cons (pv 3) (pa_nil)))) (pa_cons (pe_tup (pa_cons (pe_str) (pa_cons (pv 5) (pa_nil)))) (pa_nil))))))) (pss_nil)) (pss_nil)) (pss_cons (ps_if (pt_cmpR (op_eq) (pv 4) (pe_int) (nomark _)) (pss_cons (ps_ret (pe_tup (pa_cons (pe_str) (pa_cons (pe_ix ix_str (pe_str) (pe_call c_law_draw.ok (hr.mono (by decide)) (by rfl) c_law_draw.g c_law_draw.kp c_law_draw.b .nil pass0 (pa_cons (pv 0) (pa_cons (pe_int) (pa_nil)))) (fun _ _ => rfl)) (pa_cons (pe_tup (pa_cons (pe_str) (pa_cons (pv 5) (pa_nil)))) (pa_cons (pe_tup (pa_cons (pe_str) (pa_cons (pe_ix ix_str (pe_str) (pe_call c_law_draw.ok (hr.mono (by decide)) (by rfl) c_law_draw.g c_law_draw.kp c_law_draw.b .nil pass0 (pa_cons (pv 0) (pa_cons (pe_int) (pa_nil)))) (fun _ _ => rfl)) (pa_nil)))) (pa_cons (pv 6) (pa_nil)))))))) (pss_nil)) (pss_nil)) (pss_cons (ps_ret (pe_tup (pa_cons (pe_str) (pa_cons (pv 6) (pa_nil))))) (pss_nil)))))), ?_⟩
    obtain rfl := d_int d_at_
    obtain rfl := d_int d_size_
    obtain rfl := d_int d_many_
    refine l_asg (fun v => [_, _, _, _, some v, _, _]) (fun _ => rfl) ?_
    refine y_call ?_
    refine y_cons ?_
    refine y_var rfl ?_
    refine y_cons ?_
    refine y_c ?_
    refine y_nil ?_
    refine ⟨amb, _, _, _, _, _, _, rfl, z, d_reel_, (Dq.int _), ?_⟩
    refine run_mono2 hw (fun t1 reel_ hw v g_reel_ H Ho e z d2 d_reel_ => ?_)
    replace d2 : Z.D K Ho v t1 := d2
    replace d_reel_ : OH K Ho v_reel_ reel_ g_reel_ := d_reel_
    have es4 := (Same.refl _).trans e
    obtain rfl := d_int d2
    refine l_i hw (fun kind_ hw => ?_)
    refine l_asg (fun v => [_, _, _, _, _, some v, _]) (fun _ => rfl) ?_
    refine y_op ?_
    refine y_c ?_
    refine y_call ?_
    refine y_cons ?_
    refine y_var rfl ?_
    refine y_cons ?_
    refine y_c ?_
    refine y_nil ?_
    refine ⟨amb, _, _, _, _, _, _, rfl, z, d_reel_, (Dq.int _), ?_⟩
    refine run_mono2 hw (fun t5 reel_ hw v g_reel_ H Ho e z d6 d_reel_ => ?_)
    replace d6 : Z.D K Ho v t5 := d6
    replace d_reel_ : OH K Ho v_reel_ reel_ g_reel_ := d_reel_
    have es8 := es4.trans e
    obtain rfl := d_int d6
    refine y_ixStr hw (fun t9 hw => ?_)
    refine l_s hw (fun box_ hw => ?_)
    refine l_asg (fun v => [_, _, _, _, _, _, some v]) (fun _ => rfl) ?_
    refine y_op ?_
    refine y_var rfl ?_
    refine y_call ?_
    refine y_cons ?_
    refine y_var rfl ?_
    refine y_cons ?_
    refine y_op ?_
    refine y_var rfl ?_
    refine y_c ?_
    refine y_i0 ?_
    refine y_nil ?_
    refine ⟨amb, _, _, _, _, _, _, rfl, z, d_reel_, (Dq.int _), ?_⟩
    refine run_mono2 hw (fun t10 reel_ hw v g_reel_ H Ho e z d11 d_reel_ => ?_)
    replace d11 : Z.D K Ho v t10 := d11
    replace d_reel_ : OH K Ho v_reel_ reel_ g_reel_ := d_reel_
    have es13 := es8.trans e
    obtain rfl := d_int d11
    refine y_i0 ?_
    refine l_i hw (fun to_ hw => ?_)
    refine y_ifS ?_
    refine y_test ?_
    refine y_op ?_
    refine y_var rfl ?_
    refine y_c ?_
    refine y_i0 ?_
    refine ⟨_, rfl, ?_⟩
    refine y_cases hw (fun hb hw => ?_) (fun hb hw => ?_)
    · refine y_ret ?_
      refine k_tup ?_
      refine y_cons ?_
      refine y_c ?_
      refine y_cons ?_
      refine y_var rfl ?_
      refine y_cons ?_
      refine y_call ?_
      refine y_cons ?_
      refine y_var rfl ?_
      refine y_cons ?_
      refine y_var rfl ?_
      refine y_nil ?_
      refine ⟨amb, _, _, _, _, _, _, rfl, z, d_reel_, (Dq.int _), ?_⟩
      refine run_mono2 hw (fun t14 reel_ hw v g_reel_ H Ho e z d15 d_reel_ => ?_)
      replace d15 : Z.D K Ho v t14 := d15
      replace d_reel_ : OH K Ho v_reel_ reel_ g_reel_ := d_reel_
      have es17 := es13.trans e
      obtain rfl := d_int d15
      refine y_cons ?_
      refine k_tup ?_
      refine y_cons ?_
      refine y_c ?_
      refine y_cons ?_
      refine y_var rfl ?_
      refine y_nil ?_
      refine k_tupk (K := K) (x := (("box" : Str), box_)) z (by show 2 ≤ sizeLine; decide) _ rfl (DqAll.cons (Dq.str _) (DqAll.cons (Dq.str _) DqAll.nil)) (fun p H Ho e z d18 => ?_)
      replace d_reel_ := OH.mo d_reel_ e
      have es19 := es17.trans e
      refine y_nil ?_
      refine k_tupk (K := K) (x := (⟨("swap" : Str), box_, t14, (("box" : Str), box_)⟩ : (P4 Str Str Int (Str × Str)))) z (by show 4 ≤ sizeLine; decide) _ rfl (DqAll.cons (Dq.str _) (DqAll.cons (Dq.str _) (DqAll.cons (Dq.int _) (DqAll.cons d18 DqAll.nil)))) (fun p H Ho e z d20 => ?_)
      replace d_reel_ := OH.mo d_reel_ e
      have es21 := es19.trans e
      have d22 := (show Z.D K Ho _ (toPy (⟨("swap" : Str), box_, t14, (("box" : Str), box_)⟩ : (P4 Str Str Int (Str × Str)))) from d20)
      exact (run_ret hw) _ _ _ _ es21 z d22 d_reel_
    · refine y_nxS ?_
      refine y_ifS ?_
      refine y_test ?_
      refine y_op ?_
      refine y_var rfl ?_
      refine y_c ?_
      refine y_eqi ?_
      refine ⟨_, rfl, ?_⟩
      refine y_cases hw (fun hb hw => ?_) (fun hb hw => ?_)
      · refine y_ret ?_
        refine k_tup ?_
        refine y_cons ?_
        refine y_c ?_
        refine y_cons ?_
        refine y_op ?_
        refine y_c ?_
        refine y_call ?_
        refine y_cons ?_
        refine y_var rfl ?_
        refine y_cons ?_
        refine y_c ?_
        refine y_nil ?_
        refine ⟨amb, _, _, _, _, _, _, rfl, z, d_reel_, (Dq.int _), ?_⟩
        refine run_mono2 hw (fun t23 reel_ hw v g_reel_ H Ho e z d24 d_reel_ => ?_)
        replace d24 : Z.D K Ho v t23 := d24
        replace d_reel_ : OH K Ho v_reel_ reel_ g_reel_ := d_reel_
        have es26 := es13.trans e
        obtain rfl := d_int d24
        refine y_ixStr hw (fun t27 hw => ?_)
        refine y_cons ?_
        refine k_tup ?_
        refine y_cons ?_
        refine y_c ?_
        refine y_cons ?_
        refine y_var rfl ?_
        refine y_nil ?_
        refine k_tupk (K := K) (x := (("box" : Str), box_)) z (by show 2 ≤ sizeLine; decide) _ rfl (DqAll.cons (Dq.str _) (DqAll.cons (Dq.str _) DqAll.nil)) (fun p H Ho e z d28 => ?_)
        replace d_reel_ := OH.mo d_reel_ e
        have es29 := es26.trans e
        refine y_cons ?_
        refine k_tup ?_
        refine y_cons ?_
        refine y_c ?_
        refine y_cons ?_
        refine y_op ?_
        refine y_c ?_
        refine y_call ?_
        refine y_cons ?_
        refine y_var rfl ?_
        refine y_cons ?_
        refine y_c ?_
        refine y_nil ?_
        refine ⟨amb, _, _, _, _, _, _, rfl, z, d_reel_, (Dq.int _), ?_⟩
        refine run_mono2 hw (fun t30 reel_ hw v g_reel_ H Ho e z d31 d_reel_ => ?_)
        replace d31 : Z.D K Ho v t30 := d31
        replace d_reel_ : OH K Ho v_reel_ reel_ g_reel_ := d_reel_
        replace d28 := D.mo d28 e
        have es33 := es29.trans e
        obtain rfl := d_int d31
        refine y_ixStr hw (fun t34 hw => ?_)
        refine y_nil ?_
        refine k_tupk (K := K) (x := (("box" : Str), t34)) z (by show 2 ≤ sizeLine; decide) _ rfl (DqAll.cons (Dq.str _) (DqAll.cons (Dq.str _) DqAll.nil)) (fun p H Ho e z d35 => ?_)
        replace d_reel_ := OH.mo d_reel_ e
        replace d28 := D.mo d28 e
        have es36 := es33.trans e
        refine y_cons ?_
        refine y_var rfl ?_
        refine y_nil ?_
        refine k_tupk (K := K) (x := (⟨("unless" : Str), t27, (("box" : Str), box_), (("box" : Str), t34), to_⟩ : (P5 Str Str (Str × Str) (Str × Str) Int))) z (by show 5 ≤ sizeLine; decide) _ rfl (DqAll.cons (Dq.str _) (DqAll.cons (Dq.str _) (DqAll.cons d28 (DqAll.cons d35 (DqAll.cons (Dq.int _) DqAll.nil))))) (fun p H Ho e z d37 => ?_)
        replace d_reel_ := OH.mo d_reel_ e
        have es38 := es36.trans e
        have d39 := (show Z.D K Ho _ (toPy (⟨("unless" : Str), t27, (("box" : Str), box_), (("box" : Str), t34), to_⟩ : (P5 Str Str (Str × Str) (Str × Str) Int))) from d37)
        exact (run_ret hw) _ _ _ _ es38 z d39 d_reel_
      · refine y_nxS ?_
        refine y_ret ?_
        refine k_tup ?_
        refine y_cons ?_
        refine y_c ?_
        refine y_cons ?_
        refine y_var rfl ?_
        refine y_nil ?_
        refine k_tupk (K := K) (x := (("go" : Str), to_)) z (by show 2 ≤ sizeLine; decide) _ rfl (DqAll.cons (Dq.str _) (DqAll.cons (Dq.int _) DqAll.nil)) (fun p H Ho e z d40 => ?_)
        replace d_reel_ := OH.mo d_reel_ e
        have es41 := es13.trans e
        have d42 := (show Z.D K Ho _ (toPy (("go" : Str), to_)) from d40)
        exact (run_ret hw) _ _ _ _ es41 z d42 d_reel_
def sp_law_hand (K : PySem.W.Frag) (cl : Nat → Addr) : Sp := fun vs H Q E => ∃ (amb : Grp) (Ho : Hp) (v0 : V) (x0 : (H4 (List Int) (List Int) Int Int)) (g0 : Grp) (v1 : V) (x1 : Int), vs = [v0, v1] ∧ Zs (g0 ++ amb) H Ho ∧ OH K Ho v0 x0 g0 ∧ Z.D K Ho v1 x1 ∧ (m_law_hand x0 x1).run fun r => ∀ v h0 H' Ho', Same Ho Ho' → Zs (h0 ++ amb) H' Ho' → Z.D K Ho' v r.1 → OH K Ho' v0 r.2 h0 → Q v H'
abbrev s_law_hand : Stmt := topS 25
theorem sc_law_hand : FnScope ["reel", "many", "rows", "boxes", "k", "box", "size"] ["reel", "many"] (defScope s_law_hand) := ⟨rfl, rfl, rfl, by decide +kernel, rfl, by decide +kernel, by decide +kernel⟩
theorem ok_law_hand {f : Addr} {fd : FuncData} (F : Fun K "_law_hand" "_law_hand" s_law_hand f fd) {f_law_draw : Addr} {fd_law_draw : FuncData} (c_law_draw : Cal P w K mg base CX0 "_law_draw" ["reel", "many"] 1 (sp_law_draw K cl) f_law_draw fd_law_draw) {f_law_row : Addr} {fd_law_row : FuncData} (c_law_row : Cal P w K mg base CX0 "_law_row" ["reel", "at", "size", "many"] 2 (sp_law_row K cl) f_law_row fd_law_row) (m_range : mg "range" = none) (m_len : mg "len" = none) :
    FnOk P w K mg base CX0 3 f fd ["reel", "many"] (sp_law_hand K cl) := by
  refine F.ok sc_law_hand (fun vs H Q E h => ?_) (fun cdv A outer s H vs Q E hr h => ?_)
  · obtain ⟨amb, Ho, v_reel_, reel_, g_reel_, v_many_, many_, rfl, _⟩ := h
    rfl
  · obtain ⟨amb, Ho, v_reel_, reel_, g_reel_, v_many_, many_, rfl, z, d_reel_, d_many_, hw⟩ := h
    refine ⟨_, pss_cons (ps_set (i := 2) sc_law_hand.nd rfl (Or.inr rfl) (pe_lst (pa_nil))) (pss_cons (ps_set (i := 3) sc_law_hand.nd rfl (Or.inl rfl) (pe_op op_rep (pe_lst (pa_cons (pe_int) (pa_nil))) (pe_int))) (pss_cons (ps_for PassesOwn.never rfl (pi_range1 (by rfl) m_range (pa_cons (pe_call c_law_draw.ok (hr.mono (by decide)) (by rfl) c_law_draw.g c_law_draw.kp c_law_draw.b .nil pass0 (pa_cons (pv 0) (pa_cons (pe_int) (pa_nil)))) (pa_nil))) (pg_name (i := 4) sc_law_hand.nd rfl (Or.inl rfl)) (pss_cons (ps_set (i := 5) sc_law_hand.nd rfl (Or.inl rfl) (pe_call c_law_draw.ok (hr.mono (by decide)) (by rfl) c_law_draw.g c_law_draw.kp c_law_draw.b .nil pass0 (pa_cons (pv 0) (pa_cons (pe_int) (pa_nil))))) (pss_cons (ps_asg (pe_call c_law_draw.ok (hr.mono (by decide)) (by rfl) c_law_draw.g c_law_draw.kp c_law_draw.b .nil pass0 (pa_cons (pv 0) (pa_cons (pe_int) (pa_nil)))) (pg_sub (pv 3) (pv 5) set_list)) (pss_cons (ps_expr (pe_bm PySem.F.plainAttrs_list PySem.F.slot_list_append PySem.F.type_list_append mt_append (pv 2) (pa_cons (pe_tup (pa_cons (pe_str) (pa_cons (pe_ix ix_str (pe_str) (pv 5) (fun _ _ => rfl)) (pa_cons (pe_tup (pa_cons (pe_str) (pa_cons (pe_ix (zix_list (K := K) rfl) (pv 3) (pv 5) (fun _ _ => rfl)) (pa_nil)))) (pa_nil))))) (pa_nil)))) (pss_nil))))) (pss_cons (ps_set (i := 6) sc_law_hand.nd rfl (Or.inr rfl) (pe_call c_law_draw.ok (hr.mono (by decide)) (by rfl) c_law_draw.g c_law_draw.kp c_law_draw.b .nil pass0 (pa_cons (pv 0) (pa_cons (pe_int) (pa_nil))))) (pss_cons (ps_ret (pe_tup (pa_cons (pe_op (zop_catS (K := K) rfl) (pv 2) (pe_lc (own := [("k", 4)]) rfl sc_law_hand.nd (pi_range1 (by rfl) m_range (pa_cons (pv 6) (pa_nil))) (blkOk_by (N := ["reel", "many", "rows", "boxes", "k", "box", "size"]) (sc := defScope s_law_hand) (by decide +kernel)) (fun _ _ _ _ _ => pg_name (i := 4) sc_law_hand.nd rfl (Or.inl rfl)) (fun _ _ _ _ _ => pts_nil) (fun _ _ _ _ _ => pe_call c_law_row.ok (hr.mono (by decide)) (by rfl) c_law_row.g c_law_row.kp c_law_row.b .nil pass0 (pa_cons (pv 0) (pa_cons (pe_callB (zlen (K := K) rfl) (by rfl) m_len (by decide +kernel) (pa_cons (pv 2) (pa_nil))) (pa_cons (pv 6) (pa_cons (pv 1) (pa_nil)))))))) (pa_cons (pv 3) (pa_nil))))) (pss_nil))))), ?_⟩
    obtain rfl := d_int d_many_
    refine l_asg (fun v => [_, _, some v, _, _, _, _]) (fun _ => rfl) ?_
    refine k_lst ?_
    refine y_nil ?_
    refine k_lstk (K := K) (xs := ([] : (List PyData))) z DqAll.nil (by show 0 ≤ sizeLine; decide) (fun H p1 ws2 z d3 => ?_)
    replace z : Zs ([(p1, HO.lst ws2)] ++ (g_reel_ ++ amb)) H Ho := z
    have o4 := OL.mk (p := p1) d3
    refine l_o hw z o4 (fun rows_ v_rows_ g_rows_ z d_rows_ hw => ?_)
    refine l_asg (fun v => [_, _, _, some v, _, _, _]) (fun _ => rfl) ?_
    refine y_op ?_
    refine k_lst ?_
    refine y_cons ?_
    refine y_c ?_
    refine y_nil ?_
    refine k_lstk (K := K) (xs := ([(0 : Int)] : (List Int))) z (DqAll.cons (Dq.int _) DqAll.nil) (by show 1 ≤ sizeLine; decide) (fun H p5 ws6 z d7 => ?_)
    replace z : Zs ([(p5, HO.lst ws6)] ++ (g_rows_ ++ (g_reel_ ++ amb))) H Ho := z
    have o8 := OL.mk (p := p5) d7
    refine y_c ?_
    refine y_rep z d7 hw.1 (fun H p9 ws10 z d11 => ?_)
    replace hw := (run_gd hw).2
    replace z : Zs ([(p9, HO.lst ws10)] ++ (g_rows_ ++ (g_reel_ ++ amb))) H Ho := z
    have o12 := OL.mk (p := p9) d11
    refine l_o hw z o12 (fun boxes_ v_boxes_ g_boxes_ z d_boxes_ hw => ?_)
    refine y_for ?_
    refine k_iR1 ?_
    refine y_cons ?_
    refine y_call ?_
    refine y_cons ?_
    refine y_var rfl ?_
    refine y_cons ?_
    refine y_c ?_
    refine y_nil ?_
    replace z : Zs (g_reel_ ++ (g_boxes_ ++ (g_rows_ ++ amb))) _ _ := z.go [g_boxes_, g_rows_, g_reel_] amb [2, 0, 1]
    refine ⟨(g_boxes_ ++ (g_rows_ ++ amb)), _, _, _, _, _, _, rfl, z, d_reel_, (Dq.int _), ?_⟩
    refine run_mono2 hw (fun t13 reel_ hw v g_reel_ H Ho e z d14 d_reel_ => ?_)
    replace d14 : Z.D K Ho v t13 := d14
    replace d_reel_ : OH K Ho v_reel_ reel_ g_reel_ := d_reel_
    replace d_boxes_ := OL.mo d_boxes_ e
    replace d_rows_ := OL.mo d_rows_ e
    have es16 := (Same.refl _).trans e
    obtain rfl := d_int d14
    refine y_nil ?_
    refine k_srcR1 (K := K) (Ho := Ho) hw.1 (fun J T => ?_)
    replace hw := (run_gd hw).2
    refine y_forL T hw (fun (s : (H4 (List Int) (List Int) Int Int) × (List PyData) × (List Int)) (σ : L2.St) (H Ho : Hp) => ∃ (g_reel_ : Grp) (g_rows_ : Grp) (g_boxes_ : Grp) (y_k_ : Option V) (y_box_ : Option V), σ = [some v_reel_, some (V.int many_), some v_rows_, some v_boxes_, y_k_, y_box_, none] ∧ Zs (g_reel_ ++ (g_boxes_ ++ (g_rows_ ++ amb))) H Ho ∧ OH K Ho v_reel_ s.1 g_reel_ ∧ OL K Ho v_rows_ s.2.1 g_rows_ ∧ OL K Ho v_boxes_ s.2.2 g_boxes_) ⟨_, _, _, _, _, rfl, z, d_reel_, d_rows_, d_boxes_⟩ ?_ ?_ ?_ ?_
    · intro s σ H Ho hI
      obtain ⟨reel_, rows_, boxes_⟩ := s
      obtain ⟨g_reel_, g_rows_, g_boxes_, y_k_, y_box_, rfl, z, d_reel_, d_rows_, d_boxes_⟩ := hI
      exact ⟨_, z, mgN⟩
    · intro s σ H Ho H2 Ho2 hI e t
      obtain ⟨reel_, rows_, boxes_⟩ := s
      obtain ⟨g_reel_, g_rows_, g_boxes_, y_k_, y_box_, rfl, z, d_reel_, d_rows_, d_boxes_⟩ := hI
      exact ⟨_, _, _, _, _, rfl, t _ z, OH.mo d_reel_ e, OL.mo d_rows_ e, OL.mo d_boxes_ e⟩
    · intro k_ v_k_ s σ H Ho N e hI d_k_ hw
      obtain ⟨reel_, rows_, boxes_⟩ := s
      obtain ⟨g_reel_, g_rows_, g_boxes_, y_k_, y_box_, rfl, z, d_reel_, d_rows_, d_boxes_⟩ := hI
      have es17 := es16.trans e
      obtain rfl := d_int d_k_
      refine y_gname (σ' := [some v_reel_, some (V.int many_), some v_rows_, some v_boxes_, some (V.int k_), y_box_, none]) rfl ?_
      refine l_asg (fun v => [_, _, _, _, _, some v, _]) (fun _ => rfl) ?_
      refine y_call ?_
      refine y_cons ?_
      refine y_var rfl ?_
      refine y_cons ?_
      refine y_c ?_
      refine y_nil ?_
      refine ⟨(g_boxes_ ++ (g_rows_ ++ amb)), _, _, _, _, _, _, rfl, z, d_reel_, (Dq.int _), ?_⟩
      refine run_mono2 hw (fun t18 reel_ hw v g_reel_ H Ho e z d19 d_reel_ => ?_)
      replace d19 : Z.D K Ho v t18 := d19
      replace d_reel_ : OH K Ho v_reel_ reel_ g_reel_ := d_reel_
      replace d_boxes_ := OL.mo d_boxes_ e
      replace d_rows_ := OL.mo d_rows_ e
      have es21 := (Same.refl _).trans e
      obtain rfl := d_int d19
      refine l_i hw (fun box_ hw => ?_)
      refine y_asgG ?_
      refine y_call ?_
      refine y_cons ?_
      refine y_var rfl ?_
      refine y_cons ?_
      refine y_c ?_
      refine y_nil ?_
      refine ⟨(g_boxes_ ++ (g_rows_ ++ amb)), _, _, _, _, _, _, rfl, z, d_reel_, (Dq.int _), ?_⟩
      refine run_mono2 hw (fun t22 reel_ hw v g_reel_ H Ho e z d23 d_reel_ => ?_)
      replace d23 : Z.D K Ho v t22 := d23
      replace d_reel_ : OH K Ho v_reel_ reel_ g_reel_ := d_reel_
      replace d_boxes_ := OL.mo d_boxes_ e
      replace d_rows_ := OL.mo d_rows_ e
      have es25 := es21.trans e
      obtain rfl := d_int d23
      refine y_gsub ?_
      refine y_var rfl ?_
      refine y_var rfl ?_
      replace z : Zs (g_boxes_ ++ (g_reel_ ++ (g_rows_ ++ amb))) _ _ := z.go [g_reel_, g_boxes_, g_rows_] amb [1, 0, 2]
      refine g_sti z d_boxes_ (Dq.int _) hw (fun boxes_ g_boxes_ H z d_boxes_ hw => ?_)
      refine y_drop ?_
      refine y_bm ?_
      refine y_var rfl ?_
      refine g_tyL (OL.lv d_rows_ (mgS (mgS mg0))) z ?_
      refine y_cons ?_
      refine k_tup ?_
      refine y_cons ?_
      refine y_c ?_
      refine y_cons ?_
      refine y_op ?_
      refine y_c ?_
      refine y_var rfl ?_
      refine y_ixStr hw (fun t26 hw => ?_)
      refine y_cons ?_
      refine k_tup ?_
      refine y_cons ?_
      refine y_c ?_
      refine y_cons ?_
      refine y_op ?_
      refine y_var rfl ?_
      refine y_var rfl ?_
      refine y_ixL (OL.lv d_boxes_ mg0) z hw (fun t27 w d28 hw => ?_)
      obtain rfl := d_int d28
      refine y_nil ?_
      refine k_tupk (K := K) (x := (("number" : Str), t27)) z (by show 2 ≤ sizeLine; decide) _ rfl (DqAll.cons (Dq.str _) (DqAll.cons (Dq.int _) DqAll.nil)) (fun p H Ho e z d29 => ?_)
      replace d_boxes_ := OL.mo d_boxes_ e
      replace d_reel_ := OH.mo d_reel_ e
      replace d_rows_ := OL.mo d_rows_ e
      have es30 := es25.trans e
      refine y_nil ?_
      refine k_tupk (K := K) (x := (⟨("let" : Str), t26, (("number" : Str), t27)⟩ : (P3 Str Str (Str × Int)))) z (by show 3 ≤ sizeLine; decide) _ rfl (DqAll.cons (Dq.str _) (DqAll.cons (Dq.str _) (DqAll.cons d29 DqAll.nil))) (fun p H Ho e z d31 => ?_)
      replace d_boxes_ := OL.mo d_boxes_ e
      replace d_reel_ := OH.mo d_reel_ e
      replace d_rows_ := OL.mo d_rows_ e
      have es32 := es30.trans e
      have d33 := (show Z.D K Ho _ (toPy (⟨("let" : Str), t26, (("number" : Str), t27)⟩ : (P3 Str Str (Str × Int)))) from d31)
      refine y_nil ?_
      replace z : Zs (g_rows_ ++ (g_boxes_ ++ (g_reel_ ++ amb))) _ _ := z.go [g_boxes_, g_reel_, g_rows_] amb [2, 0, 1]
      refine g_app z d_rows_ d33 hw (fun rows_ g_rows_ H z d_rows_ hw => ?_)
      replace z : Zs (g_reel_ ++ (g_boxes_ ++ (g_rows_ ++ amb))) _ _ := z.go [g_rows_, g_boxes_, g_reel_] amb [2, 1, 0]
      exact (run_ret hw) _ _ _ es32 ⟨_, _, _, _, _, rfl, z, d_reel_, d_rows_, d_boxes_⟩
    intro s σ H Ho e hI hw
    obtain ⟨reel_, rows_, boxes_⟩ := s
    obtain ⟨g_reel_, g_rows_, g_boxes_, y_k_, y_box_, rfl, z, d_reel_, d_rows_, d_boxes_⟩ := hI
    have es34 := es16.trans e
    refine l_asg (fun v => [_, _, _, _, _, _, some v]) (fun _ => rfl) ?_
    refine y_call ?_
    refine y_cons ?_
    refine y_var rfl ?_
    refine y_cons ?_
    refine y_c ?_
    refine y_nil ?_
    refine ⟨(g_boxes_ ++ (g_rows_ ++ amb)), _, _, _, _, _, _, rfl, z, d_reel_, (Dq.int _), ?_⟩
    refine run_mono2 hw (fun t35 reel_ hw v g_reel_ H Ho e z d36 d_reel_ => ?_)
    replace d36 : Z.D K Ho v t35 := d36
    replace d_reel_ : OH K Ho v_reel_ reel_ g_reel_ := d_reel_
    replace d_boxes_ := OL.mo d_boxes_ e
    replace d_rows_ := OL.mo d_rows_ e
    have es38 := es34.trans e
    obtain rfl := d_int d36
    refine l_i hw (fun size_ hw => ?_)
    refine y_ret ?_
    refine k_tup ?_
    refine y_cons ?_
    refine y_op ?_
    refine y_var rfl ?_
    refine y_lc ?_
    refine k_iR1 ?_
    refine y_cons ?_
    refine y_var rfl ?_
    refine y_nil ?_
    refine k_srcR1 (K := K) (Ho := Ho) hw.1 (fun J T => ?_)
    replace hw := (run_gd hw).2
    refine y_lcS z T hw (fun (r39 : Addr × HO) (s : (H4 (List Int) (List Int) Int Int)) (H2 Ho2 : Hp) => ∃ (g_reel_ : Grp), OH K Ho2 v_reel_ s g_reel_ ∧ Zs ([r39] ++ (g_reel_ ++ (g_boxes_ ++ (g_rows_ ++ amb)))) H2 Ho2) (fun r H z => ⟨_, d_reel_, z⟩) ?_ ?_ ?_ ?_ ?_
    · rintro r s H Ho ⟨g_reel_, d_reel_, z⟩
      exact ⟨_, z, fun r m => mgN r m⟩
    · rintro r s H Ho H2 Ho2 ⟨g_reel_, d_reel_, z⟩ e t
      exact ⟨_, OH.mo d_reel_ e, t _ z⟩
    · rintro p o o' s H Ho hn ⟨g_reel_, d_reel_, z⟩
      exact ⟨_, d_reel_, Zs.put z hn⟩
    · intro r39 k_ v_k_ reel_ H Ho N N' e hI d_k_ hw
      obtain ⟨g_reel_, d_reel_, z⟩ := hI
      replace d_boxes_ := OL.mo d_boxes_ e
      replace d_rows_ := OL.mo d_rows_ e
      have es40 := es38.trans e
      obtain rfl := d_int d_k_
      refine y_gname (σ' := [some v_reel_, some (V.int many_), some v_rows_, some v_boxes_, some (V.int k_), y_box_, some (V.int size_)]) rfl ?_
      refine ⟨rfl, ?_⟩
      refine y_yes (w_t ?_)
      refine y_call ?_
      refine y_cons ?_
      refine y_var rfl ?_
      refine y_cons ?_
      refine y_cb ?_
      refine y_cons ?_
      refine y_var rfl ?_
      refine y_nil ?_
      refine y_len (OL.lv d_rows_ (mgS (mgS (mgS mg0)))) z ?_
      refine y_cons ?_
      refine y_var rfl ?_
      refine y_cons ?_
      refine y_var rfl ?_
      refine y_nil ?_
      replace z : Zs (g_reel_ ++ ([r39] ++ (g_boxes_ ++ (g_rows_ ++ amb)))) _ _ := z.go [[r39], g_reel_, g_boxes_, g_rows_] amb [1, 0, 2, 3]
      refine ⟨([r39] ++ (g_boxes_ ++ (g_rows_ ++ amb))), _, _, _, _, _, _, _, _, _, _, rfl, z, d_reel_, (Dq.int _), (Dq.int _), (Dq.int _), ?_⟩
      refine run_mono2 hw (fun t41 reel_ hw v g_reel_ H Ho e z d42 d_reel_ => ?_)
      replace d42 : Z.D K Ho v t41 := d42
      replace d_reel_ : OH K Ho v_reel_ reel_ g_reel_ := d_reel_
      replace d_boxes_ := OL.mo d_boxes_ e
      replace d_rows_ := OL.mo d_rows_ e
      have es44 := (Same.refl _).trans e
      replace z : Zs ([r39] ++ (g_reel_ ++ (g_boxes_ ++ (g_rows_ ++ amb)))) _ _ := z.go [g_reel_, [r39], g_boxes_, g_rows_] amb [1, 0, 2, 3]
      exact (run_ret hw) _ _ _ es44 ⟨_, d_reel_, z⟩ d42
    rintro t48 reel_ p45 ws46 H Ho e ⟨g_reel_, d_reel_, z⟩ d47 hw
    replace d_boxes_ := OL.mo d_boxes_ e
    replace d_rows_ := OL.mo d_rows_ e
    have es49 := es38.trans e
    replace z : Zs ([(p45, HO.lst ws46)] ++ (g_reel_ ++ (g_boxes_ ++ (g_rows_ ++ amb)))) H Ho := z
    have o50 := OL.mk (p := p45) d47
    refine y_cat (OL.lv d_rows_ (mgS (mgS (mgS mg0)))) (OL.lv o50 mg0) z hw.1 (fun H p51 ws52 z d53 => ?_)
    replace hw := (run_gd hw).2
    replace z : Zs ([(p51, HO.lst ws52)] ++ ([(p45, HO.lst ws46)] ++ (g_reel_ ++ (g_boxes_ ++ (g_rows_ ++ amb))))) H Ho := z
    have o54 := OL.mk (p := p51) d53
    refine y_cons ?_
    refine y_var rfl ?_
    refine y_nil ?_
    refine l_fr o54 z (fun Ho e z d55 => ?_)
    replace d_boxes_ := OL.mo d_boxes_ e
    replace d_reel_ := OH.mo d_reel_ e
    replace d_rows_ := OL.mo d_rows_ e
    have es56 := es49.trans e
    replace z : Zs (g_boxes_ ++ ([(p45, HO.lst ws46)] ++ (g_reel_ ++ (g_rows_ ++ amb)))) _ _ := z.go [[(p45, HO.lst ws46)], g_reel_, g_boxes_, g_rows_] amb [2, 0, 1, 3]
    refine l_fr d_boxes_ z (fun Ho e z d_boxes_ => ?_)
    replace d_reel_ := OH.mo d_reel_ e
    replace d_rows_ := OL.mo d_rows_ e
    replace d55 := D.mo d55 e
    have es57 := es56.trans e
    refine k_tupk (K := K) (x := ((rows_ ++ t48), boxes_)) z (by show 2 ≤ sizeLine; decide) _ rfl (DqAll.cons d55 (DqAll.cons d_boxes_ DqAll.nil)) (fun p H Ho e z d58 => ?_)
    replace d_boxes_ := D.mo d_boxes_ e
    replace d_reel_ := OH.mo d_reel_ e
    replace d_rows_ := OL.mo d_rows_ e
    have es59 := es57.trans e
    replace z : Zs (g_reel_ ++ amb) _ _ := z.go [[(p45, HO.lst ws46)], g_reel_, g_rows_] amb [1]
    exact (run_ret hw) _ _ _ _ es59 z d58 d_reel_
def sp_law_boxes (K : PySem.W.Frag) (cl : Nat → Addr) : Sp := fun vs H Q E => ∃ (amb : Grp) (Ho : Hp) (v0 : V) (x0 : ObWorks) (v1 : V) (x1 : Int), vs = [v0, v1] ∧ Zs amb H Ho ∧ BC_Works K amb Ho v0 x0 ∧ Z.D K Ho v1 x1 ∧ (m_law_boxes x0 x1).run fun r => ∀ v H' Ho', Same Ho Ho' → Zs amb H' Ho' → Z.D K Ho' v r → Q v H'
abbrev s_law_boxes : Stmt := topS 26
theorem sc_law_boxes : FnScope ["one", "many", "k"] ["one", "many"] (defScope s_law_boxes) := ⟨rfl, rfl, rfl, by decide +kernel, rfl, by decide +kernel, by decide +kernel⟩
theorem ok_law_boxes {f : Addr} {fd : FuncData} (F : Fun K "_law_boxes" "_law_boxes" s_law_boxes f fd) {q_Works : Addr} {f_Works_boxes : Addr} {fd_Works_boxes : FuncData} (c_Works_boxes : MCal P w K mg base CX0 q_Works "boxes" ["self", "hand"] 2 (sp_Works_boxes K cl) f_Works_boxes fd_Works_boxes) (m_range : mg "range" = none) (cf_Works : CF K q_Works "Works" ns_Works) :
    FnOk P w K mg base CX0 3 f fd ["one", "many"] (sp_law_boxes K cl) := by
  refine F.ok sc_law_boxes (fun vs H Q E h => ?_) (fun cdv A outer s H vs Q E hr h => ?_)
  · obtain ⟨amb, Ho, v_one_, one_, v_many_, many_, rfl, _⟩ := h
    rfl
  · obtain ⟨amb, Ho, v_one_, one_, v_many_, many_, rfl, z, d_one_, d_many_, hw⟩ := h
    refine ⟨_, pss_cons (ps_ret (pe_lc (own := [("k", 2)]) rfl sc_law_boxes.nd (pi_range1 (by rfl) m_range (pa_cons (pv 1) (pa_nil))) (blkOk_by (N := ["one", "many", "k"]) (sc := defScope s_law_boxes) (by decide +kernel)) (fun _ _ _ _ _ => pg_name (i := 2) sc_law_boxes.nd rfl (Or.inl rfl)) (fun _ _ _ _ _ => pts_nil) (fun _ _ _ _ _ => (by exact (pe_methS' (E := fun _ => E0) (pv 0) cf_Works.cl c_Works_boxes.me c_Works_boxes.ok (hr.mono (by decide)) c_Works_boxes.b (fun σ => passAt0 (E := fun _ => E0)) (pa_cons (pv 2) (pa_nil))))))) (pss_nil), ?_⟩
    obtain rfl := d_int d_many_
    refine y_ret ?_
    refine y_lc ?_
    refine k_iR1 ?_
    refine y_cons ?_
    refine y_var rfl ?_
    refine y_nil ?_
    refine k_srcR1 (K := K) (Ho := Ho) hw.1 (fun J T => ?_)
    replace hw := (run_gd hw).2
    refine y_lcG z mgN T hw (fun r1 k_ v_k_ H Ho N N' e z d_k_ hw => ?_) (fun t14 H Ho e hw p11 ws12 z d13 => ?_)
    · replace z : Zs ([r1] ++ amb) H Ho := z
      replace d_one_ := BC_Works.mo d_one_ e
      have es2 := (Same.refl _).trans e
      obtain rfl := d_int d_k_
      refine y_gname (σ' := [some v_one_, some (V.int many_), some (V.int k_)]) rfl ?_
      refine ⟨rfl, ?_⟩
      refine y_yes (w_t ?_)
      replace hw := run_itT (run_bret hw) rfl
      refine y_meth ?_
      refine y_var rfl ?_
      refine BC_Works.met cf_Works d_one_ (mgS mgE) z (by decide +kernel) ?_
      refine y_cons ?_
      refine y_var rfl ?_
      refine y_nil ?_
      refine ⟨[], _, _, _, _, _, rfl, z.all, (BC_Works.rd (BC_Works.sub d_one_ (mgS mgE)) z), (Dq.int _), ?_⟩
      refine run_mono3 hw (fun t3 hw v g5 H Ho8 e6 z7 d4 => ?_)
      replace z := z.unlendO e6 z7
      replace d4 : OL K Ho v t3 g5 := OL.pu d4
      refine l_fr d4 z (fun Ho e z d9 => ?_)
      replace d_one_ := BC_Works.mo d_one_ e
      have es10 := (Same.refl _).trans e
      exact (run_ret hw) _ _ _ es10 z d9
    replace d_one_ := BC_Works.mo d_one_ e
    have es15 := (Same.refl _).trans e
    replace z : Zs ([(p11, HO.lst ws12)] ++ amb) H Ho := z
    have o16 := OL.mk (p := p11) d13
    refine l_fr o16 z (fun Ho e z d17 => ?_)
    replace d_one_ := BC_Works.mo d_one_ e
    have es18 := es15.trans e
    exact (run_ret hw) _ _ _ es18 z d17
def sp_law_sorted (K : PySem.W.Frag) (cl : Nat → Addr) : Sp := fun vs H Q E => ∃ (amb : Grp) (Ho : Hp) (v0 : V) (x0 : (List Int)) (v1 : V) (x1 : (List (List Int))), vs = [v0, v1] ∧ Zs amb H Ho ∧ LV K amb Ho v0 x0 ∧ LV K amb Ho v1 x1 ∧ (m_law_sorted x0 x1).run fun r => ∀ v H' Ho', Same Ho Ho' → Zs amb H' Ho' → Z.D K Ho' v r → Q v H'
abbrev s_law_sorted : Stmt := topS 27
theorem sc_law_sorted : FnScope ["numbers", "boxes", "row"] ["numbers", "boxes"] (defScope s_law_sorted) := ⟨rfl, rfl, rfl, by decide +kernel, rfl, by decide +kernel, by decide +kernel⟩
theorem ok_law_sorted {f : Addr} {fd : FuncData} (F : Fun K "_law_sorted" "_law_sorted" s_law_sorted f fd) (m_list : mg "list" = none) (m_sum : mg "sum" = none) (m_sorted : mg "sorted" = none) :
    FnOk P w K mg base CX0 1 f fd ["numbers", "boxes"] (sp_law_sorted K cl) := by
  refine F.ok sc_law_sorted (fun vs H Q E h => ?_) (fun cdv A outer s H vs Q E hr h => ?_)
  · obtain ⟨amb, Ho, v_numbers_, numbers_, v_boxes_, boxes_, rfl, _⟩ := h
    rfl
  · obtain ⟨amb, Ho, v_numbers_, numbers_, v_boxes_, boxes_, rfl, z, d_numbers_, d_boxes_, hw⟩ := h
    refine ⟨_, pss_cons (ps_ret (pe_callB (zsortI (K := K) rfl) (by rfl) m_sorted (by decide +kernel) (pa_cons (pe_op (zop_catS (K := K) rfl) (pv 0) (pe_callBK (zsumL (K := K) rfl rfl) (by rfl) m_sum (by decide +kernel) (pa_cons (pe_lc (own := [("row", 2)]) rfl sc_law_sorted.nd (zpi_list (K := K) rfl (pv 1)) (blkOk_by (N := ["numbers", "boxes", "row"]) (sc := defScope s_law_sorted) (by decide +kernel)) (fun _ _ _ _ _ => pg_name (i := 2) sc_law_sorted.nd rfl (Or.inl rfl)) (fun _ _ _ _ _ => pts_nil) (fun _ _ _ _ _ => pe_callTy (zlist (K := K) rfl) (by rfl) m_list (by decide +kernel) (pa_cons (pv 2) (pa_nil)))) (pa_nil)) (pk_cons (pe_lst (pa_nil)) pk_nil))) (pa_nil)))) (pss_nil), ?_⟩
    refine y_ret ?_
    refine y_cb ?_
    refine y_cons ?_
    refine y_op ?_
    refine y_var rfl ?_
    refine y_ckw ?_
    refine y_cons ?_
    refine y_lc ?_
    refine k_iList ?_
    refine y_var rfl ?_
    refine k_srcL (r0 := amb) (LV.sub d_boxes_ mgE) mgE z (fun J T => ?_)
    refine y_lcG z mgE T hw (fun r1 row_ v_row_ H Ho N N' e z d_row_ hw => ?_) (fun t12 H Ho e hw p9 ws10 z d11 => ?_)
    · replace z : Zs ([r1] ++ amb) H Ho := z
      replace d_boxes_ := LV.mo d_boxes_ e
      replace d_numbers_ := LV.mo d_numbers_ e
      have es2 := (Same.refl _).trans e
      refine y_gname (σ' := [some v_numbers_, some v_boxes_, some v_row_]) rfl ?_
      refine ⟨rfl, ?_⟩
      refine y_yes (w_t ?_)
      replace hw := run_itT (run_bret hw) rfl
      refine y_cb ?_
      refine y_cons ?_
      refine y_var rfl ?_
      refine y_nil ?_
      refine y_list (LV.of d_row_) z (fun H p3 ws4 z d5 => ?_)
      replace z : Zs ([(p3, HO.lst ws4)] ++ ([r1] ++ amb)) H Ho := z
      have o6 := OL.mk (p := p3) d5
      refine l_fr o6 z (fun Ho e z d7 => ?_)
      replace d_boxes_ := LV.mo d_boxes_ e
      replace d_numbers_ := LV.mo d_numbers_ e
      replace d_row_ := D.mo d_row_ e
      have es8 := (Same.refl _).trans e
      exact (run_ret hw) _ _ _ es8 z d7
    replace d_boxes_ := LV.mo d_boxes_ e
    replace d_numbers_ := LV.mo d_numbers_ e
    have es13 := (Same.refl _).trans e
    replace z : Zs ([(p9, HO.lst ws10)] ++ amb) H Ho := z
    have o14 := OL.mk (p := p9) d11
    refine y_nil ?_
    refine y_cons ?_
    refine k_lst ?_
    refine y_nil ?_
    refine k_lstk (K := K) (xs := ([] : (List Int))) z DqAll.nil (by show 0 ≤ sizeLine; decide) (fun H p15 ws16 z d17 => ?_)
    replace z : Zs ([(p15, HO.lst ws16)] ++ ([(p9, HO.lst ws10)] ++ amb)) H Ho := z
    have o18 := OL.mk (p := p15) d17
    refine y_nil ?_
    refine y_sumL (OL.lv o14 (mgS mg0)) (OL.lv o18 mg0) z hw.1 (fun H p19 ws20 z d21 => ?_)
    replace hw := (run_gd hw).2
    replace z : Zs ([(p19, HO.lst ws20)] ++ ([(p15, HO.lst ws16)] ++ ([(p9, HO.lst ws10)] ++ amb))) H Ho := z
    have o22 := OL.mk (p := p19) d21
    refine y_cat (LV.sub d_numbers_ (mgS (mgS (mgS mgE)))) (OL.lv o22 mg0) z hw.1 (fun H p23 ws24 z d25 => ?_)
    replace hw := (run_gd hw).2
    replace z : Zs ([(p23, HO.lst ws24)] ++ ([(p19, HO.lst ws20)] ++ ([(p15, HO.lst ws16)] ++ ([(p9, HO.lst ws10)] ++ amb)))) H Ho := z
    have o26 := OL.mk (p := p23) d25
    refine y_nil ?_
    refine y_sortI (OL.lv o26 mg0) z (fun H p27 ws28 z d29 => ?_)
    replace z : Zs ([(p27, HO.lst ws28)] ++ ([(p23, HO.lst ws24)] ++ ([(p19, HO.lst ws20)] ++ ([(p15, HO.lst ws16)] ++ ([(p9, HO.lst ws10)] ++ amb))))) H Ho := z
    have o30 := OL.mk (p := p27) d29
    refine l_fr o30 z (fun Ho e z d31 => ?_)
    have es32 := es13.trans e
    replace z : Zs amb _ _ := z.go [[(p23, HO.lst ws24)], [(p19, HO.lst ws20)], [(p15, HO.lst ws16)], [(p9, HO.lst ws10)]] amb []
    exact (run_ret hw) _ _ _ es32 z d31
def sp_law_right (K : PySem.W.Frag) (cl : Nat → Addr) : Sp := fun vs H Q E => ∃ (amb : Grp) (Ho : Hp) (v0 : V) (x0 : (P4 Str Int (Option Int) (Option Int))) (v1 : V) (x1 : ((List Int) × (List (List Int)))) (v2 : V) (x2 : ((List Int) × (List (List Int)))) (v3 : V) (x3 : Int), vs = [v0, v1, v2, v3] ∧ Zs amb H Ho ∧ Z.D K Ho v0 x0 ∧ Z.D K Ho v1 x1 ∧ Z.D K Ho v2 x2 ∧ Z.D K Ho v3 x3 ∧ (m_law_right x0 x1 x2 x3).run fun r => ∀ v H' Ho', Same Ho Ho' → Zs amb H' Ho' → Z.D K Ho' v r → Q v H'
abbrev s_law_right : Stmt := topS 28
theorem sc_law_right : FnScope ["told", "before", "after", "k", "kind", "cell", "had", "put", "due", "unlike", "at"] ["told", "before", "after", "k"] (defScope s_law_right) := ⟨rfl, rfl, rfl, by decide +kernel, rfl, by decide +kernel, by decide +kernel⟩
theorem ok_law_right {f : Addr} {fd : FuncData} (F : Fun K "_law_right" "_law_right" s_law_right f fd) (m_list : mg "list" = none) (m_len : mg "len" = none) (m_range : mg "range" = none) :
    FnOk P w K mg base CX0 1 f fd ["told", "before", "after", "k"] (sp_law_right K cl) := by
  refine F.ok sc_law_right (fun vs H Q E h => ?_) (fun cdv A outer s H vs Q E hr h => ?_)
  · obtain ⟨amb, Ho, v_told_, told_, v_before_, before_, v_after_, after_, v_k_, k_, rfl, _⟩ := h
    rfl
  · obtain ⟨amb, Ho, v_told_, told_, v_before_, before_, v_after_, after_, v_k_, k_, rfl, z, d_told_, d_before_, d_after_, d_k_, hw⟩ := h
    refine ⟨_, pss_cons (ps_asg (pv 0) (zpg_tup (K := K) (n := 4) rfl rfl (pgs_cons (pg_name (i := 4) sc_law_right.nd rfl (Or.inl rfl)) (pgs_cons (pg_name (i := 5) sc_law_right.nd rfl (Or.inl rfl)) (pgs_cons (pg_name (i := 6) sc_law_right.nd rfl (Or.inl rfl)) (pgs_cons (pg_name (i := 7) sc_law_right.nd rfl (Or.inl rfl)) (pgs_nil))))))) (pss_cons (ps_set (i := 8) sc_law_right.nd rfl (Or.inl rfl) (pe_callTy (zlist (K := K) rfl) (by rfl) m_list (by decide +kernel) (pa_cons (pe_ix (zix_tup (K := K) rfl) (pv 1) (pe_int) (fun _ _ => rfl)) (pa_nil)))) (pss_cons (ps_if (PW.pt (pw_or (pt_cmpR (op_ne) (pv 4) (pe_str) (nomark _)) (pw_or (pt_not (pt_chain op_le op_lt (pe_int) (pv 5) (pe_callB (zlen (K := K) rfl) (by rfl) m_len (by decide +kernel) (pa_cons (pv 8) (pa_nil))))) (pw_or1 (pt_cmpR (zop_neD (K := K) rfl hr.units) (pe_ix (zix_list (K := K) rfl) (pv 8) (pv 5) (fun _ _ => rfl)) (pv 6) (nomark _)))))) (pss_cons (ps_ret (pe_bl)) (pss_nil)) (pss_nil)) (pss_cons (ps_asg (pv 7) (pg_sub (pv 8) (pv 5) set_list)) (pss_cons (ps_if (PW.pt (pw_or (pt_cmpR (zop_neD (K := K) rfl hr.units) (pe_ix (zix_tup (K := K) rfl) (pv 2) (pe_int) (fun _ _ => rfl)) (pv 8) (nomark _)) (pw_or (pt_cmpR (zop_neD (K := K) rfl hr.units) (pe_slice (zsl_list (K := K) rfl) (pe_ix (zix_tup (K := K) rfl) (pv 2) (pe_int) (fun _ _ => rfl)) po_none (po_some (pv 3))) (pe_slice (zsl_list (K := K) rfl) (pe_ix (zix_tup (K := K) rfl) (pv 1) (pe_int) (fun _ _ => rfl)) po_none (po_some (pv 3))) (nomark _)) (pw_or1 (pt_cmpR (zop_neD (K := K) rfl hr.units) (pe_slice (zsl_list (K := K) rfl) (pe_ix (zix_tup (K := K) rfl) (pv 2) (pe_int) (fun _ _ => rfl)) (po_some (pe_op op_add (pv 3) (pe_int))) po_none) (pe_slice (zsl_list (K := K) rfl) (pe_ix (zix_tup (K := K) rfl) (pv 1) (pe_int) (fun _ _ => rfl)) (po_some (pe_op op_add (pv 3) (pe_int))) po_none) (nomark _)))))) (pss_cons (ps_ret (pe_bl)) (pss_nil)) (pss_nil)) (pss_cons (ps_setLc (i := 9) (own := [("at", 10)]) rfl sc_law_right.nd rfl rfl (sw_true rfl rfl rfl (by decide +kernel)) (pi_range1 (by rfl) m_range (pa_cons (pe_int) (pa_nil))) (blkOk_by (N := ["told", "before", "after", "k", "kind", "cell", "had", "put", "due", "unlike", "at"]) (sc := defScope s_law_right) (by decide +kernel)) (fun _ _ _ _ _ => pg_name (i := 10) sc_law_right.nd rfl (Or.inl rfl)) (fun _ _ _ _ _ => pts_one (pt_cmpR (op_ne) (pe_ix (zix_list (K := K) rfl) (pe_ix (zix_list (K := K) rfl) (pe_ix (zix_tup (K := K) rfl) (pv 1) (pe_int) (fun _ _ => rfl)) (pv 3) (fun _ _ => rfl)) (pv 10) (fun _ _ => rfl)) (pe_ix (zix_list (K := K) rfl) (pe_ix (zix_list (K := K) rfl) (pe_ix (zix_tup (K := K) rfl) (pv 2) (pe_int) (fun _ _ => rfl)) (pv 3) (fun _ _ => rfl)) (pv 10) (fun _ _ => rfl)) (nomark _))) (fun _ _ _ _ _ => pv 10)) (pss_cons (ps_if (pt_cmpR (zop_eqD (K := K) rfl hr.units) (pv 9) (pe_lst (pa_nil)) (nomark _)) (pss_cons (ps_ret (pe_and (pe_cmpR (zop_eqD (K := K) rfl hr.units) (pv 6) (pv 7) (nomark _)) (pe_one (pe_cmpR (zop_inD (K := K) rfl (room65 hr)) (pv 7) (pe_ix (zix_list (K := K) rfl) (pe_ix (zix_tup (K := K) rfl) (pv 1) (pe_int) (fun _ _ => rfl)) (pv 3) (fun _ _ => rfl)) rfl)))) (pss_nil)) (pss_nil)) (pss_cons (ps_ret (pe_and (pe_cmpR (op_eq) (pe_callB (zlen (K := K) rfl) (by rfl) m_len (by decide +kernel) (pa_cons (pv 9) (pa_nil))) (pe_int) (nomark _)) (pe_and (pe_cmpR (zop_eqD (K := K) rfl hr.units) (pe_ix (zix_list (K := K) rfl) (pe_ix (zix_list (K := K) rfl) (pe_ix (zix_tup (K := K) rfl) (pv 1) (pe_int) (fun _ _ => rfl)) (pv 3) (fun _ _ => rfl)) (pe_ix (zix_list (K := K) rfl) (pv 9) (pe_int) (fun _ _ => rfl)) (fun _ _ => rfl)) (pv 7) (nomark _)) (pe_one (pe_cmpR (zop_eqD (K := K) rfl hr.units) (pe_ix (zix_list (K := K) rfl) (pe_ix (zix_list (K := K) rfl) (pe_ix (zix_tup (K := K) rfl) (pv 2) (pe_int) (fun _ _ => rfl)) (pv 3) (fun _ _ => rfl)) (pe_ix (zix_list (K := K) rfl) (pv 9) (pe_int) (fun _ _ => rfl)) (fun _ _ => rfl)) (pv 6) (nomark _)))))) (pss_nil)))))))), ?_⟩
    obtain rfl := d_int d_k_
    refine y_asgG ?_
    refine y_var rfl ?_
    refine l_u2 hw d_told_ (fun u1 d2 hw => ?_)
    obtain ⟨kind_, cell_, had_, put_⟩ := u1
    refine c_gt4 (fun v_kind_ v_cell_ v_had_ v_put_ => [_, _, _, _, some v_kind_, some v_cell_, some v_had_, some v_put_, _, _, _]) (fun _ _ _ _ => rfl) d2 z (fun v_kind_ v_cell_ v_had_ v_put_ d_kind_ d_cell_ d_had_ d_put_ => ?_)
    obtain rfl := d_str d_kind_
    obtain rfl := d_int d_cell_
    refine l_asg (fun v => [_, _, _, _, _, _, _, _, some v, _, _]) (fun _ => rfl) ?_
    refine y_cb ?_
    refine y_cons ?_
    refine y_op ?_
    refine y_var rfl ?_
    refine y_c ?_
    refine y_ixT (y := before_.1) d_before_ z ⟨_, rfl, rfl⟩ (fun w d3 => ?_)
    refine y_nil ?_
    refine y_list (LV.of d3) z (fun H p4 ws5 z d6 => ?_)
    replace z : Zs ([(p4, HO.lst ws5)] ++ amb) H Ho := z
    have o7 := OL.mk (p := p4) d6
    refine l_o hw z o7 (fun due_ v_due_ g_due_ z d_due_ hw => ?_)
    refine y_ifS ?_
    refine y_or ?_
    refine y_test ?_
    refine y_op ?_
    refine y_var rfl ?_
    refine y_c ?_
    refine y_nes ?_
    refine ⟨_, rfl, ?_⟩
    refine w_orJ hw (fun (s : Bool) (v : Bool) (H2 : Hp) => ∃ (Ho2 : Hp), Same Ho Ho2 ∧ Zs (g_due_ ++ amb) H2 Ho2 ∧ v = s) (fun hb hw => ?_) (fun hb hw => ?_) ?_
    · exact (run_ret hw) _ _ ⟨_, (Same.refl _), z, rfl⟩
    · refine y_or ?_
      refine y_not ?_
      refine y_test ?_
      refine y_chain ?_
      refine y_c ?_
      refine y_var rfl ?_
      refine y_i0 ⟨_, rfl, ?_⟩
      refine w_chain (decide (cell_ < ((due_).length : Int))) (fun hb hq => ?_) ?_
      · refine y_cb ?_
        refine y_cons ?_
        refine y_var rfl ?_
        refine y_nil ?_
        refine y_len (OL.lv d_due_ mg0) z ?_
        refine y_i0 ?_
        exact hq
      refine ⟨_, rfl, ?_⟩
      refine w_orJ hw (fun (s : Bool) (v : Bool) (H2 : Hp) => ∃ (Ho2 : Hp), Same Ho Ho2 ∧ Zs (g_due_ ++ amb) H2 Ho2 ∧ v = s) (fun hb hw => ?_) (fun hb hw => ?_) ?_
      · exact (run_ret hw) _ _ ⟨_, (Same.refl _), z, rfl⟩
      · refine y_test ?_
        refine y_op ?_
        refine y_op ?_
        refine y_var rfl ?_
        refine y_var rfl ?_
        refine y_ixL (OL.lv d_due_ mg0) z hw (fun t8 w d9 hw => ?_)
        obtain rfl := d_int d9
        refine y_var rfl ?_
        refine y_neD (Dq.int _) (D.mo d_had_ z.le) hw.1 ?_
        replace hw := (run_gd hw).2
        refine ⟨_, rfl, ?_⟩
        exact (run_ret hw) _ _ ⟨_, (Same.refl _), z, rfl⟩
      rintro t10 v H ⟨Ho, e, z, rfl⟩ hw
      replace d_after_ := D.mo d_after_ e
      replace d_before_ := D.mo d_before_ e
      replace d_due_ := OL.mo d_due_ e
      replace d_had_ := D.mo d_had_ e
      replace d_put_ := D.mo d_put_ e
      have es13 := (Same.refl _).trans e
      exact (run_ret hw) _ _ ⟨_, es13, z, rfl⟩
    rintro t14 v H ⟨Ho, e, z, rfl⟩ hw
    replace d_after_ := D.mo d_after_ e
    replace d_before_ := D.mo d_before_ e
    replace d_due_ := OL.mo d_due_ e
    replace d_had_ := D.mo d_had_ e
    replace d_put_ := D.mo d_put_ e
    have es17 := (Same.refl _).trans e
    refine y_cases hw (fun hb hw => ?_) (fun hb hw => ?_)
    · refine y_ret ?_
      refine y_c ?_
      replace z : Zs amb _ _ := z.go [g_due_] amb []
      exact (run_ret hw) _ _ _ es17 z (Dq.bl _)
    · refine y_nxS ?_
      refine y_asgG ?_
      refine y_var rfl ?_
      refine y_get d_put_ hw (fun t18 d19 hw => ?_)
      obtain rfl := d_int d19
      refine y_gsub ?_
      refine y_var rfl ?_
      refine y_var rfl ?_
      refine g_sti z d_due_ (Dq.int _) hw (fun due_ g_due_ H z d_due_ hw => ?_)
      refine y_ifS ?_
      refine y_or ?_
      refine y_test ?_
      refine y_op ?_
      refine y_op ?_
      refine y_var rfl ?_
      refine y_c ?_
      refine y_ixT (y := after_.1) d_after_ z ⟨_, rfl, rfl⟩ (fun w d20 => ?_)
      refine y_var rfl ?_
      refine y_neD (D.mo d20 z.le) (LV.dp (OL.lv d_due_ mg0) z) hw.1 ?_
      replace hw := (run_gd hw).2
      refine ⟨_, rfl, ?_⟩
      refine w_orJ hw (fun (s : Bool) (v : Bool) (H2 : Hp) => ∃ (Ho2 : Hp), Same Ho Ho2 ∧ Zs (g_due_ ++ amb) H2 Ho2 ∧ v = s) (fun hb hw => ?_) (fun hb hw => ?_) ?_
      · exact (run_ret hw) _ _ ⟨_, (Same.refl _), z, rfl⟩
      · refine y_or ?_
        refine y_test ?_
        refine y_op ?_
        refine y_sl ?_
        refine y_op ?_
        refine y_var rfl ?_
        refine y_c ?_
        refine y_ixT (y := after_.2) d_after_ z ⟨_, rfl, rfl⟩ (fun w d21 => ?_)
        refine y_noPart ?_
        refine y_part ?_
        refine y_var rfl ?_
        refine ⟨_, rfl, ?_⟩
        refine y_slL (LV.of d21) z (fun H p22 ws23 z d24 => ?_)
        replace z : Zs ([(p22, HO.lst ws23)] ++ (g_due_ ++ amb)) H Ho := z
        have o25 := OL.mk (p := p22) d24
        refine y_sl ?_
        refine y_op ?_
        refine y_var rfl ?_
        refine y_c ?_
        refine y_ixT (y := before_.2) d_before_ z ⟨_, rfl, rfl⟩ (fun w d26 => ?_)
        refine y_noPart ?_
        refine y_part ?_
        refine y_var rfl ?_
        refine ⟨_, rfl, ?_⟩
        refine y_slL (LV.of d26) z (fun H p27 ws28 z d29 => ?_)
        replace z : Zs ([(p27, HO.lst ws28)] ++ ([(p22, HO.lst ws23)] ++ (g_due_ ++ amb))) H Ho := z
        have o30 := OL.mk (p := p27) d29
        refine y_neD (LV.dp (OL.lv o25 (mgS mg0)) z) (LV.dp (OL.lv o30 mg0) z) hw.1 ?_
        replace hw := (run_gd hw).2
        refine ⟨_, rfl, ?_⟩
        refine w_orJ hw (fun (s : Bool) (v : Bool) (H2 : Hp) => ∃ (Ho2 : Hp), Same Ho Ho2 ∧ Zs ([(p27, HO.lst ws28)] ++ ([(p22, HO.lst ws23)] ++ (g_due_ ++ amb))) H2 Ho2 ∧ v = s) (fun hb hw => ?_) (fun hb hw => ?_) ?_
        · exact (run_ret hw) _ _ ⟨_, (Same.refl _), z, rfl⟩
        · refine y_test ?_
          refine y_op ?_
          refine y_sl ?_
          refine y_op ?_
          refine y_var rfl ?_
          refine y_c ?_
          refine y_ixT (y := after_.2) d_after_ z ⟨_, rfl, rfl⟩ (fun w d31 => ?_)
          refine y_part ?_
          refine y_op ?_
          refine y_var rfl ?_
          refine y_c ?_
          refine y_i0 ?_
          refine ⟨_, rfl, ?_⟩
          refine y_noPart ?_
          refine y_slL (LV.of d31) z (fun H p32 ws33 z d34 => ?_)
          replace z : Zs ([(p32, HO.lst ws33)] ++ ([(p27, HO.lst ws28)] ++ ([(p22, HO.lst ws23)] ++ (g_due_ ++ amb)))) H Ho := z
          have o35 := OL.mk (p := p32) d34
          refine y_sl ?_
          refine y_op ?_
          refine y_var rfl ?_
          refine y_c ?_
          refine y_ixT (y := before_.2) d_before_ z ⟨_, rfl, rfl⟩ (fun w d36 => ?_)
          refine y_part ?_
          refine y_op ?_
          refine y_var rfl ?_
          refine y_c ?_
          refine y_i0 ?_
          refine ⟨_, rfl, ?_⟩
          refine y_noPart ?_
          refine y_slL (LV.of d36) z (fun H p37 ws38 z d39 => ?_)
          replace z : Zs ([(p37, HO.lst ws38)] ++ ([(p32, HO.lst ws33)] ++ ([(p27, HO.lst ws28)] ++ ([(p22, HO.lst ws23)] ++ (g_due_ ++ amb))))) H Ho := z
          have o40 := OL.mk (p := p37) d39
          refine y_neD (LV.dp (OL.lv o35 (mgS mg0)) z) (LV.dp (OL.lv o40 mg0) z) hw.1 ?_
          replace hw := (run_gd hw).2
          refine ⟨_, rfl, ?_⟩
          replace z : Zs ([(p27, HO.lst ws28)] ++ ([(p22, HO.lst ws23)] ++ (g_due_ ++ amb))) _ _ := z.go [[(p37, HO.lst ws38)], [(p32, HO.lst ws33)], [(p27, HO.lst ws28)], [(p22, HO.lst ws23)], g_due_] amb [2, 3, 4]
          exact (run_ret hw) _ _ ⟨_, (Same.refl _), z, rfl⟩
        rintro t41 v H ⟨Ho, e, z, rfl⟩ hw
        replace d_after_ := D.mo d_after_ e
        replace d_before_ := D.mo d_before_ e
        replace d_due_ := OL.mo d_due_ e
        replace d_had_ := D.mo d_had_ e
        replace d_put_ := D.mo d_put_ e
        have es44 := (Same.refl _).trans e
        replace z : Zs (g_due_ ++ amb) _ _ := z.go [[(p27, HO.lst ws28)], [(p22, HO.lst ws23)], g_due_] amb [2]
        exact (run_ret hw) _ _ ⟨_, es44, z, rfl⟩
      rintro t45 v H ⟨Ho, e, z, rfl⟩ hw
      replace d_after_ := D.mo d_after_ e
      replace d_before_ := D.mo d_before_ e
      replace d_due_ := OL.mo d_due_ e
      replace d_had_ := D.mo d_had_ e
      replace d_put_ := D.mo d_put_ e
      have es48 := es17.trans e
      refine y_cases hw (fun hb hw => ?_) (fun hb hw => ?_)
      · refine y_ret ?_
        refine y_c ?_
        replace z : Zs amb _ _ := z.go [g_due_] amb []
        exact (run_ret hw) _ _ _ es48 z (Dq.bl _)
      · refine y_nxS ?_
        refine l_asg (fun v => [_, _, _, _, _, _, _, _, _, some v, _]) (fun _ => rfl) ?_
        refine y_lc ?_
        refine k_iR1 ?_
        refine y_cons ?_
        refine y_c ?_
        refine y_nil ?_
        refine k_srcR1 (K := K) (Ho := Ho) hw.1 (fun J T => ?_)
        replace hw := (run_gd hw).2
        refine y_lcG z mgN T hw (fun r49 at_ v_at_ H Ho N N' e z d_at_ hw => ?_) (fun t64 H Ho e hw p61 ws62 z d63 => ?_)
        · replace z : Zs ([r49] ++ (g_due_ ++ amb)) H Ho := z
          replace d_after_ := D.mo d_after_ e
          replace d_before_ := D.mo d_before_ e
          replace d_due_ := OL.mo d_due_ e
          replace d_had_ := D.mo d_had_ e
          replace d_put_ := D.mo d_put_ e
          have es50 := es48.trans e
          obtain rfl := d_int d_at_
          refine y_gname (σ' := [some v_told_, some v_before_, some v_after_, some (V.int k_), some (V.str kind_), some (V.int cell_), some v_had_, some (V.int t18), some v_due_, none, some (V.int at_)]) rfl ?_
          refine ⟨rfl, ?_⟩
          refine y_test ?_
          refine y_op ?_
          refine y_op ?_
          refine y_op ?_
          refine y_op ?_
          refine y_var rfl ?_
          refine y_c ?_
          refine y_ixT (y := before_.2) d_before_ z ⟨_, rfl, rfl⟩ (fun w d51 => ?_)
          refine y_var rfl ?_
          refine y_ixL (LV.of d51) z hw (fun t52 w d53 hw => ?_)
          refine y_var rfl ?_
          refine y_ixL (LV.of d53) z hw (fun t54 w d55 hw => ?_)
          obtain rfl := d_int d55
          refine y_op ?_
          refine y_op ?_
          refine y_op ?_
          refine y_var rfl ?_
          refine y_c ?_
          refine y_ixT (y := after_.2) d_after_ z ⟨_, rfl, rfl⟩ (fun w d56 => ?_)
          refine y_var rfl ?_
          refine y_ixL (LV.of d56) z hw (fun t57 w d58 hw => ?_)
          refine y_var rfl ?_
          refine y_ixL (LV.of d58) z hw (fun t59 w d60 hw => ?_)
          obtain rfl := d_int d60
          refine y_nei ?_
          refine ⟨_, rfl, ?_⟩
          refine w_two (fun hb => ?_) (fun hb => ?_)
          · replace hw := run_itT (run_ret hw) hb
            refine y_var rfl ?_
            exact (run_ret hw) _ _ _ (Same.refl _) z (Dq.int _)
          · exact run_itF (run_ret hw) hb _ _ (Same.refl _) z
        replace d_after_ := D.mo d_after_ e
        replace d_before_ := D.mo d_before_ e
        replace d_due_ := OL.mo d_due_ e
        replace d_had_ := D.mo d_had_ e
        replace d_put_ := D.mo d_put_ e
        have es65 := es48.trans e
        replace z : Zs ([(p61, HO.lst ws62)] ++ (g_due_ ++ amb)) H Ho := z
        have o66 := OL.mk (p := p61) d63
        refine l_fr o66 z (fun Ho e z d67 => ?_)
        replace d_after_ := D.mo d_after_ e
        replace d_before_ := D.mo d_before_ e
        replace d_due_ := OL.mo d_due_ e
        replace d_had_ := D.mo d_had_ e
        replace d_put_ := D.mo d_put_ e
        have es68 := es65.trans e
        refine l_d (K := K) (Ho := Ho) hw d67 (fun unlike_ v_unlike_ d_unlike_ hw => ?_)
        refine y_ifS ?_
        refine y_test ?_
        refine y_op ?_
        refine y_var rfl ?_
        refine k_lst ?_
        refine y_nil ?_
        refine k_lstk (K := K) (xs := ([] : (List Int))) z DqAll.nil (by show 0 ≤ sizeLine; decide) (fun H p69 ws70 z d71 => ?_)
        replace z : Zs ([(p69, HO.lst ws70)] ++ (g_due_ ++ amb)) H Ho := z
        have o72 := OL.mk (p := p69) d71
        refine y_eqD (D.mo d_unlike_ z.le) (LV.dp (OL.lv o72 mg0) z) hw.1 ?_
        replace hw := (run_gd hw).2
        refine ⟨_, rfl, ?_⟩
        refine y_cases hw (fun hb hw => ?_) (fun hb hw => ?_)
        · replace z : Zs (g_due_ ++ amb) _ _ := z.go [[(p69, HO.lst ws70)], g_due_] amb [1]
          refine y_ret ?_
          refine y_andV ?_
          refine y_op ?_
          refine y_var rfl ?_
          refine y_var rfl ?_
          refine y_eqD (D.mo d_had_ z.le) (D.mo d_put_ z.le) hw.1 ?_
          replace hw := (run_gd hw).2
          refine ⟨_, rfl, ?_⟩
          refine w_andVJ hw (fun (s : Bool) (v : V) (H2 : Hp) => ∃ (Ho2 : Hp), Same Ho Ho2 ∧ Zs (g_due_ ++ amb) H2 Ho2 ∧ v = V.bl s) (fun hb hw => ?_) (fun hb hw => ?_) ?_
          · refine y_op ?_
            refine y_var rfl ?_
            refine y_op ?_
            refine y_op ?_
            refine y_var rfl ?_
            refine y_c ?_
            refine y_ixT (y := before_.2) d_before_ z ⟨_, rfl, rfl⟩ (fun w d73 => ?_)
            refine y_var rfl ?_
            refine y_ixL (LV.of d73) z hw (fun t74 w d75 hw => ?_)
            refine y_inD (D.mo d_put_ z.le) (D.mo d75 z.le) hw.1 ?_
            replace hw := (run_gd hw).2
            exact (run_ret hw) _ _ ⟨_, (Same.refl _), z, rfl⟩
          · exact (run_ret hw) _ _ ⟨_, (Same.refl _), z, rfl⟩
          rintro t76 v H ⟨Ho, e, z, rfl⟩ hw
          replace d_before_ := D.mo d_before_ e
          replace d_due_ := OL.mo d_due_ e
          replace d_had_ := D.mo d_had_ e
          replace d_put_ := D.mo d_put_ e
          have es79 := es68.trans e
          replace z : Zs amb _ _ := z.go [g_due_] amb []
          exact (run_ret hw) _ _ _ es79 z (Dq.bl _)
        · refine y_nxS ?_
          replace z : Zs (g_due_ ++ amb) _ _ := z.go [[(p69, HO.lst ws70)], g_due_] amb [1]
          refine y_ret ?_
          refine y_andV ?_
          refine y_op ?_
          refine y_cb ?_
          refine y_cons ?_
          refine y_var rfl ?_
          refine y_nil ?_
          refine y_len (LV.of d_unlike_) z ?_
          refine y_c ?_
          refine y_eqi ?_
          refine ⟨_, rfl, ?_⟩
          refine w_andVJ hw (fun (s : Bool) (v : V) (H2 : Hp) => ∃ (Ho2 : Hp), Same Ho Ho2 ∧ Zs (g_due_ ++ amb) H2 Ho2 ∧ v = V.bl s) (fun hb hw => ?_) (fun hb hw => ?_) ?_
          · refine y_andV ?_
            refine y_op ?_
            refine y_op ?_
            refine y_op ?_
            refine y_op ?_
            refine y_var rfl ?_
            refine y_c ?_
            refine y_ixT (y := before_.2) d_before_ z ⟨_, rfl, rfl⟩ (fun w d80 => ?_)
            refine y_var rfl ?_
            refine y_ixL (LV.of d80) z hw (fun t81 w d82 hw => ?_)
            refine y_op ?_
            refine y_var rfl ?_
            refine y_c ?_
            refine y_ixL (LV.of d_unlike_) z hw (fun t83 w d84 hw => ?_)
            obtain rfl := d_int d84
            refine y_ixL (LV.of d82) z hw (fun t85 w d86 hw => ?_)
            obtain rfl := d_int d86
            refine y_var rfl ?_
            refine y_eqD (Dq.int _) (D.mo d_put_ z.le) hw.1 ?_
            replace hw := (run_gd hw).2
            refine ⟨_, rfl, ?_⟩
            refine w_andVJ hw (fun (s : Bool) (v : V) (H2 : Hp) => ∃ (Ho2 : Hp), Same Ho Ho2 ∧ Zs (g_due_ ++ amb) H2 Ho2 ∧ v = V.bl s) (fun hb hw => ?_) (fun hb hw => ?_) ?_
            · refine y_op ?_
              refine y_op ?_
              refine y_op ?_
              refine y_op ?_
              refine y_var rfl ?_
              refine y_c ?_
              refine y_ixT (y := after_.2) d_after_ z ⟨_, rfl, rfl⟩ (fun w d87 => ?_)
              refine y_var rfl ?_
              refine y_ixL (LV.of d87) z hw (fun t88 w d89 hw => ?_)
              refine y_op ?_
              refine y_var rfl ?_
              refine y_c ?_
              refine y_ixL (LV.of d_unlike_) z hw (fun t90 w d91 hw => ?_)
              obtain rfl := d_int d91
              refine y_ixL (LV.of d89) z hw (fun t92 w d93 hw => ?_)
              obtain rfl := d_int d93
              refine y_var rfl ?_
              refine y_eqD (Dq.int _) (D.mo d_had_ z.le) hw.1 ?_
              replace hw := (run_gd hw).2
              exact (run_ret hw) _ _ ⟨_, (Same.refl _), z, rfl⟩
            · exact (run_ret hw) _ _ ⟨_, (Same.refl _), z, rfl⟩
            rintro t94 v H ⟨Ho, e, z, rfl⟩ hw
            replace d_after_ := D.mo d_after_ e
            replace d_before_ := D.mo d_before_ e
            replace d_due_ := OL.mo d_due_ e
            replace d_had_ := D.mo d_had_ e
            replace d_put_ := D.mo d_put_ e
            replace d_unlike_ := D.mo d_unlike_ e
            have es97 := (Same.refl _).trans e
            exact (run_ret hw) _ _ ⟨_, es97, z, rfl⟩
          · exact (run_ret hw) _ _ ⟨_, (Same.refl _), z, rfl⟩
          rintro t98 v H ⟨Ho, e, z, rfl⟩ hw
          replace d_after_ := D.mo d_after_ e
          replace d_before_ := D.mo d_before_ e
          replace d_due_ := OL.mo d_due_ e
          replace d_had_ := D.mo d_had_ e
          replace d_put_ := D.mo d_put_ e
          replace d_unlike_ := D.mo d_unlike_ e
          have es101 := es68.trans e
          replace z : Zs amb _ _ := z.go [g_due_] amb []
          exact (run_ret hw) _ _ _ es101 z (Dq.bl _)
def sp_law (K : PySem.W.Frag) (cl : Nat → Addr) : Sp := fun vs H Q E => ∃ (amb : Grp) (Ho : Hp) (v0 : V) (x0 : (List Int)), vs = [v0] ∧ Zs amb H Ho ∧ LV K amb Ho v0 x0 ∧ (m_law x0).run fun r => ∀ v H' Ho', Same Ho Ho' → Zs amb H' Ho' → Z.D K Ho' v r → Q v H'
abbrev s_law : Stmt := topS 29
theorem sc_law : FnScope ["script", "reel", "many", "hands", "k", "numbers", "one", "rows", "boxes", "before", "due", "turn", "waiting", "told", "after"] ["script"] (defScope s_law) := ⟨rfl, rfl, rfl, by decide +kernel, rfl, by decide +kernel, by decide +kernel⟩
theorem ok_law {f : Addr} {fd : FuncData} (F : Fun K "law" "law" s_law f fd) {q_Works : Addr} {f_law_reel : Addr} {fd_law_reel : FuncData} (c_law_reel : Cal P w K mg base CX0 "_law_reel" ["script"] 1 (sp_law_reel K cl) f_law_reel fd_law_reel) {f_law_draw : Addr} {fd_law_draw : FuncData} (c_law_draw : Cal P w K mg base CX0 "_law_draw" ["reel", "many"] 1 (sp_law_draw K cl) f_law_draw fd_law_draw) {f_law_hand : Addr} {fd_law_hand : FuncData} (c_law_hand : Cal P w K mg base CX0 "_law_hand" ["reel", "many"] 3 (sp_law_hand K cl) f_law_hand fd_law_hand) {f_Works___init__ : Addr} {fd_Works___init__ : FuncData} (c_Works___init__ : KCal P w K mg base CX0 q_Works "Works" ["self", "program", "cells"] 8 (sp_Works___init__ K cl) f_Works___init__ fd_Works___init__) {f_Works_cells : Addr} {fd_Works_cells : FuncData} (c_Works_cells : MCal P w K mg base CX0 q_Works "cells" ["self"] 1 (sp_Works_cells K cl) f_Works_cells fd_Works_cells) {f_law_boxes : Addr} {fd_law_boxes : FuncData} (c_law_boxes : Cal P w K mg base CX0 "_law_boxes" ["one", "many"] 3 (sp_law_boxes K cl) f_law_boxes fd_law_boxes) {f_law_sorted : Addr} {fd_law_sorted : FuncData} (c_law_sorted : Cal P w K mg base CX0 "_law_sorted" ["numbers", "boxes"] 1 (sp_law_sorted K cl) f_law_sorted fd_law_sorted) {f_Works_how : Addr} {fd_Works_how : FuncData} (c_Works_how : MCal P w K mg base CX0 q_Works "how" ["self", "hand"] 2 (sp_Works_how K cl) f_Works_how fd_Works_how) {f_Works_turn : Addr} {fd_Works_turn : FuncData} (c_Works_turn : MCal P w K mg base CX0 q_Works "turn" ["self", "hand"] 8 (sp_Works_turn K cl) f_Works_turn fd_Works_turn) {f_law_right : Addr} {fd_law_right : FuncData} (c_law_right : Cal P w K mg base CX0 "_law_right" ["told", "before", "after", "k"] 1 (sp_law_right K cl) f_law_right fd_law_right) (m_range : mg "range" = none) (m_len : mg "len" = none) (m_min : mg "min" = none) (cf_Works : CF K q_Works "Works" ns_Works) :
    FnOk P w K mg base CX0 10 f fd ["script"] (sp_law K cl) := by
  refine F.ok sc_law (fun vs H Q E h => ?_) (fun cdv A outer s H vs Q E hr h => ?_)
  · obtain ⟨amb, Ho, v_script_, script_, rfl, _⟩ := h
    rfl
  · obtain ⟨amb, Ho, v_script_, script_, rfl, z, d_script_, hw⟩ := h
    refine ⟨_, pss_cons (ps_set (i := 1) sc_law.nd rfl (Or.inr rfl) (pe_call c_law_reel.ok (hr.mono (by decide)) (by rfl) c_law_reel.g c_law_reel.kp c_law_reel.b .nil pass0 (pa_cons (pv 0) (pa_nil)))) (pss_cons (ps_set (i := 2) sc_law.nd rfl (Or.inr rfl) (pe_op op_add (pe_int) (pe_call c_law_draw.ok (hr.mono (by decide)) (by rfl) c_law_draw.g c_law_draw.kp c_law_draw.b .nil pass0 (pa_cons (pv 1) (pa_cons (pe_int) (pa_nil)))))) (pss_cons (ps_setLc (i := 3) (own := [("k", 4)]) rfl sc_law.nd rfl rfl (sw_true rfl rfl rfl (by decide +kernel)) (pi_range1 (by rfl) m_range (pa_cons (pe_op op_add (pe_int) (pe_call c_law_draw.ok (hr.mono (by decide)) (by rfl) c_law_draw.g c_law_draw.kp c_law_draw.b .nil pass0 (pa_cons (pv 1) (pa_cons (pe_int) (pa_nil))))) (pa_nil))) (blkOk_by (N := ["script", "reel", "many", "hands", "k", "numbers", "one", "rows", "boxes", "before", "due", "turn", "waiting", "told", "after"]) (sc := defScope s_law) (by decide +kernel)) (fun _ _ _ _ _ => pg_name (i := 4) sc_law.nd rfl (Or.inl rfl)) (fun _ _ _ _ _ => pts_nil) (fun _ _ _ _ _ => pe_call c_law_hand.ok (hr.mono (by decide)) (by rfl) c_law_hand.g c_law_hand.kp c_law_hand.b .nil pass0 (pa_cons (pv 1) (pa_cons (pv 2) (pa_nil))))) (pss_cons (ps_setLc (i := 5) (own := [("k", 4)]) rfl sc_law.nd rfl rfl (sw_true rfl rfl rfl (by decide +kernel)) (pi_range1 (by rfl) m_range (pa_cons (pv 2) (pa_nil))) (blkOk_by (N := ["script", "reel", "many", "hands", "k", "numbers", "one", "rows", "boxes", "before", "due", "turn", "waiting", "told", "after"]) (sc := defScope s_law) (by decide +kernel)) (fun _ _ _ _ _ => pg_name (i := 4) sc_law.nd rfl (Or.inl rfl)) (fun _ _ _ _ _ => pts_nil) (fun _ _ _ _ _ => pe_call c_law_draw.ok (hr.mono (by decide)) (by rfl) c_law_draw.g c_law_draw.kp c_law_draw.b .nil pass0 (pa_cons (pv 1) (pa_cons (pe_int) (pa_nil))))) (pss_cons (ps_set (i := 6) sc_law.nd rfl (Or.inr rfl) ((by exact (pe_makeS (E := fun _ => E0) c_Works___init__.mk_ c_Works___init__.ok (hr.mono (by decide)) (by rfl) c_Works___init__.g c_Works___init__.b (fun σ => passAt0 (E := fun _ => E0)) (pa_cons (pe_tup (pa_cons (pv 2) (pa_cons (pe_lc (own := [("rows", 7), ("boxes", 8)]) rfl sc_law.nd (zpi_list (K := K) rfl (pv 3)) (blkOk_by (N := ["script", "reel", "many", "hands", "k", "numbers", "one", "rows", "boxes", "before", "due", "turn", "waiting", "told", "after"]) (sc := defScope s_law) (by decide +kernel)) (fun _ _ _ _ _ => zpg_tup (K := K) (n := 2) rfl rfl (pgs_cons (pg_name (i := 7) sc_law.nd rfl (Or.inl rfl)) (pgs_cons (pg_name (i := 8) sc_law.nd rfl (Or.inl rfl)) (pgs_nil)))) (fun _ _ _ _ _ => pts_nil) (fun _ _ _ _ _ => pv 7)) (pa_nil)))) (pa_cons (pv 5) (pa_nil))))))) (pss_cons (ps_set (i := 9) sc_law.nd rfl (Or.inl rfl) (pe_tup (pa_cons ((by exact (pe_methS0' (E := fun _ => E0) (pv 6) cf_Works.cl c_Works_cells.me c_Works_cells.ok (hr.mono (by decide)) c_Works_cells.b (fun σ => passAt0 (E := fun _ => E0))))) (pa_cons (pe_call c_law_boxes.ok (hr.mono (by decide)) (by rfl) c_law_boxes.g c_law_boxes.kp c_law_boxes.b .nil pass0 (pa_cons (pv 6) (pa_cons (pe_callB (zlen (K := K) rfl) (by rfl) m_len (by decide +kernel) (pa_cons (pv 3) (pa_nil))) (pa_nil)))) (pa_nil))))) (pss_cons (ps_if (pt_cmpR (zop_neD (K := K) rfl hr.units) (pv 9) (pe_tup (pa_cons (pv 5) (pa_cons (pe_lc (own := [("rows", 7), ("boxes", 8)]) rfl sc_law.nd (zpi_list (K := K) rfl (pv 3)) (blkOk_by (N := ["script", "reel", "many", "hands", "k", "numbers", "one", "rows", "boxes", "before", "due", "turn", "waiting", "told", "after"]) (sc := defScope s_law) (by decide +kernel)) (fun _ _ _ _ _ => zpg_tup (K := K) (n := 2) rfl rfl (pgs_cons (pg_name (i := 7) sc_law.nd rfl (Or.inl rfl)) (pgs_cons (pg_name (i := 8) sc_law.nd rfl (Or.inl rfl)) (pgs_nil)))) (fun _ _ _ _ _ => pts_nil) (fun _ _ _ _ _ => pv 8)) (pa_nil)))) (nomark _)) (pss_cons (ps_ret (pe_bl)) (pss_nil)) (pss_nil)) (pss_cons (ps_set (i := 10) sc_law.nd rfl (Or.inl rfl) (pe_call c_law_sorted.ok (hr.mono (by decide)) (by rfl) c_law_sorted.g c_law_sorted.kp c_law_sorted.b .nil pass0 (pa_cons (pe_ix (zix_tup (K := K) rfl) (pv 9) (pe_int) (fun _ _ => rfl)) (pa_cons (pe_ix (zix_tup (K := K) rfl) (pv 9) (pe_int) (fun _ _ => rfl)) (pa_nil))))) (pss_cons (ps_for PassesOwn.never rfl (pi_range1 (by rfl) m_range (pa_cons (pe_op op_add (pe_int) (pe_callB (call_min2 rfl) (by rfl) m_min (by decide +kernel) (pa_cons (pe_callB (zlen (K := K) rfl) (by rfl) m_len (by decide +kernel) (pa_cons (pv 0) (pa_nil))) (pa_cons (pe_int) (pa_nil))))) (pa_nil))) (pg_name (i := 11) sc_law.nd rfl (Or.inl rfl)) (pss_cons (ps_setLc (i := 12) (own := [("k", 4)]) rfl sc_law.nd rfl rfl (sw_true rfl rfl rfl (by decide +kernel)) (pi_range1 (by rfl) m_range (pa_cons (pe_callB (zlen (K := K) rfl) (by rfl) m_len (by decide +kernel) (pa_cons (pv 3) (pa_nil))) (pa_nil))) (blkOk_by (N := ["script", "reel", "many", "hands", "k", "numbers", "one", "rows", "boxes", "before", "due", "turn", "waiting", "told", "after"]) (sc := defScope s_law) (by decide +kernel)) (fun _ _ _ _ _ => pg_name (i := 4) sc_law.nd rfl (Or.inl rfl)) (fun _ _ _ _ _ => pts_one (pt_cmpR (op_eq) ((by exact (pe_methS' (E := fun _ => E0) (pv 6) cf_Works.cl c_Works_how.me c_Works_how.ok (hr.mono (by decide)) c_Works_how.b (fun σ => passAt0 (E := fun _ => E0)) (pa_cons (pv 4) (pa_nil))))) (pe_str) (nomark _))) (fun _ _ _ _ _ => pv 4)) (pss_cons (ps_if (pt_cmpR (zop_eqD (K := K) rfl hr.units) (pv 12) (pe_lst (pa_nil)) (nomark _)) (pss_cons (ps_ret (pe_bl)) (pss_nil)) (pss_nil)) (pss_cons (ps_set (i := 4) sc_law.nd rfl (Or.inl rfl) (pe_ix (zix_list (K := K) rfl) (pv 12) (pe_call c_law_draw.ok (hr.mono (by decide)) (by rfl) c_law_draw.g c_law_draw.kp c_law_draw.b .nil pass0 (pa_cons (pv 1) (pa_cons (pe_callB (zlen (K := K) rfl) (by rfl) m_len (by decide +kernel) (pa_cons (pv 12) (pa_nil))) (pa_nil)))) (fun _ _ => rfl))) (pss_cons (ps_set (i := 13) sc_law.nd rfl (Or.inl rfl) ((by exact (pe_methS' (E := fun _ => E0) (pv 6) cf_Works.cl c_Works_turn.me c_Works_turn.ok (hr.mono (by decide)) c_Works_turn.b (fun σ => passAt0 (E := fun _ => E0)) (pa_cons (pv 4) (pa_nil)))))) (pss_cons (ps_set (i := 14) sc_law.nd rfl (Or.inl rfl) (pe_tup (pa_cons ((by exact (pe_methS0' (E := fun _ => E0) (pv 6) cf_Works.cl c_Works_cells.me c_Works_cells.ok (hr.mono (by decide)) c_Works_cells.b (fun σ => passAt0 (E := fun _ => E0))))) (pa_cons (pe_call c_law_boxes.ok (hr.mono (by decide)) (by rfl) c_law_boxes.g c_law_boxes.kp c_law_boxes.b .nil pass0 (pa_cons (pv 6) (pa_cons (pe_callB (zlen (K := K) rfl) (by rfl) m_len (by decide +kernel) (pa_cons (pv 3) (pa_nil))) (pa_nil)))) (pa_nil))))) (pss_cons (ps_if (PW.pt (pw_or (pt_not (pt_val (pe_call c_law_right.ok (hr.mono (by decide)) (by rfl) c_law_right.g c_law_right.kp c_law_right.b .nil pass0 (pa_cons (pv 13) (pa_cons (pv 9) (pa_cons (pv 14) (pa_cons (pv 4) (pa_nil)))))))) (pw_or1 (pt_cmpR (zop_neD (K := K) rfl hr.units) (pe_call c_law_sorted.ok (hr.mono (by decide)) (by rfl) c_law_sorted.g c_law_sorted.kp c_law_sorted.b .nil pass0 (pa_cons (pe_ix (zix_tup (K := K) rfl) (pv 14) (pe_int) (fun _ _ => rfl)) (pa_cons (pe_ix (zix_tup (K := K) rfl) (pv 14) (pe_int) (fun _ _ => rfl)) (pa_nil)))) (pv 10) (nomark _))))) (pss_cons (ps_ret (pe_bl)) (pss_nil)) (pss_nil)) (pss_cons (ps_set (i := 9) sc_law.nd rfl (Or.inl rfl) (pv 14)) (pss_nil))))))))) (pss_cons (ps_ret (pe_bl)) (pss_nil)))))))))), ?_⟩
    refine l_asg (fun v => [_, some v, _, _, _, _, _, _, _, _, _, _, _, _, _]) (fun _ => rfl) ?_
    refine y_call ?_
    refine y_cons ?_
    refine y_var rfl ?_
    refine y_nil ?_
    refine ⟨amb, _, _, _, rfl, z, (LV.sub d_script_ mgE), ?_⟩
    refine run_mono3 hw (fun t1 hw v g3 H Ho e z d2 => ?_)
    replace d_script_ := LV.mo d_script_ e
    have es4 := (Same.refl _).trans e
    refine h_o hw z d2 (fun reel_ v_reel_ g_reel_ z d_reel_ hw => ?_)
    refine l_asg (fun v => [_, _, some v, _, _, _, _, _, _, _, _, _, _, _, _]) (fun _ => rfl) ?_
    refine y_op ?_
    refine y_c ?_
    refine y_call ?_
    refine y_cons ?_
    refine y_var rfl ?_
    refine y_cons ?_
    refine y_c ?_
    refine y_nil ?_
    refine ⟨amb, _, _, _, _, _, _, rfl, z, d_reel_, (Dq.int _), ?_⟩
    refine run_mono2 hw (fun t5 reel_ hw v g_reel_ H Ho e z d6 d_reel_ => ?_)
    replace d6 : Z.D K Ho v t5 := d6
    replace d_reel_ : OH K Ho v_reel_ reel_ g_reel_ := d_reel_
    replace d_script_ := LV.mo d_script_ e
    have es8 := es4.trans e
    obtain rfl := d_int d6
    refine y_i0 ?_
    refine l_i hw (fun many_ hw => ?_)
    refine l_asg (fun v => [_, _, _, some v, _, _, _, _, _, _, _, _, _, _, _]) (fun _ => rfl) ?_
    refine y_lc ?_
    refine k_iR1 ?_
    refine y_cons ?_
    refine y_op ?_
    refine y_c ?_
    refine y_call ?_
    refine y_cons ?_
    refine y_var rfl ?_
    refine y_cons ?_
    refine y_c ?_
    refine y_nil ?_
    refine ⟨amb, _, _, _, _, _, _, rfl, z, d_reel_, (Dq.int _), ?_⟩
    refine run_mono2 hw (fun t9 reel_ hw v g_reel_ H Ho e z d10 d_reel_ => ?_)
    replace d10 : Z.D K Ho v t9 := d10
    replace d_reel_ : OH K Ho v_reel_ reel_ g_reel_ := d_reel_
    replace d_script_ := LV.mo d_script_ e
    have es12 := es8.trans e
    obtain rfl := d_int d10
    refine y_i0 ?_
    refine y_nil ?_
    refine k_srcR1 (K := K) (Ho := Ho) hw.1 (fun J T => ?_)
    replace hw := (run_gd hw).2
    refine y_lcS z T hw (fun (r13 : Addr × HO) (s : (H4 (List Int) (List Int) Int Int)) (H2 Ho2 : Hp) => ∃ (g_reel_ : Grp), OH K Ho2 v_reel_ s g_reel_ ∧ Zs ([r13] ++ (g_reel_ ++ amb)) H2 Ho2) (fun r H z => ⟨_, d_reel_, z⟩) ?_ ?_ ?_ ?_ ?_
    · rintro r s H Ho ⟨g_reel_, d_reel_, z⟩
      exact ⟨_, z, fun r m => mgN r m⟩
    · rintro r s H Ho H2 Ho2 ⟨g_reel_, d_reel_, z⟩ e t
      exact ⟨_, OH.mo d_reel_ e, t _ z⟩
    · rintro p o o' s H Ho hn ⟨g_reel_, d_reel_, z⟩
      exact ⟨_, d_reel_, Zs.put z hn⟩
    · intro r13 k_ v_k_ reel_ H Ho N N' e hI d_k_ hw
      obtain ⟨g_reel_, d_reel_, z⟩ := hI
      replace d_script_ := LV.mo d_script_ e
      have es14 := es12.trans e
      obtain rfl := d_int d_k_
      refine y_gname (σ' := [some v_script_, some v_reel_, some (V.int many_), none, some (V.int k_), none, none, none, none, none, none, none, none, none, none]) rfl ?_
      refine ⟨rfl, ?_⟩
      refine y_yes (w_t ?_)
      refine y_call ?_
      refine y_cons ?_
      refine y_var rfl ?_
      refine y_cons ?_
      refine y_var rfl ?_
      refine y_nil ?_
      replace z : Zs (g_reel_ ++ ([r13] ++ amb)) _ _ := z.go [[r13], g_reel_] amb [1, 0]
      refine ⟨([r13] ++ amb), _, _, _, _, _, _, rfl, z, d_reel_, (Dq.int _), ?_⟩
      refine run_mono2 hw (fun t15 reel_ hw v g_reel_ H Ho e z d16 d_reel_ => ?_)
      replace d16 : Z.D K Ho v t15 := d16
      replace d_reel_ : OH K Ho v_reel_ reel_ g_reel_ := d_reel_
      replace d_script_ := LV.mo d_script_ e
      have es18 := (Same.refl _).trans e
      replace z : Zs ([r13] ++ (g_reel_ ++ amb)) _ _ := z.go [g_reel_, [r13]] amb [1, 0]
      exact (run_ret hw) _ _ _ es18 ⟨_, d_reel_, z⟩ d16
    rintro t22 reel_ p19 ws20 H Ho e ⟨g_reel_, d_reel_, z⟩ d21 hw
    replace d_script_ := LV.mo d_script_ e
    have es23 := es12.trans e
    replace z : Zs ([(p19, HO.lst ws20)] ++ (g_reel_ ++ amb)) H Ho := z
    have o24 := OL.mk (p := p19) d21
    refine l_fr o24 z (fun Ho e z d25 => ?_)
    replace d_reel_ := OH.mo d_reel_ e
    replace d_script_ := LV.mo d_script_ e
    have es26 := es23.trans e
    refine l_d (K := K) (Ho := Ho) hw d25 (fun hands_ v_hands_ d_hands_ hw => ?_)
    refine l_asg (fun v => [_, _, _, _, _, some v, _, _, _, _, _, _, _, _, _]) (fun _ => rfl) ?_
    refine y_lc ?_
    refine k_iR1 ?_
    refine y_cons ?_
    refine y_var rfl ?_
    refine y_nil ?_
    refine k_srcR1 (K := K) (Ho := Ho) hw.1 (fun J T => ?_)
    replace hw := (run_gd hw).2
    refine y_lcS z T hw (fun (r27 : Addr × HO) (s : (H4 (List Int) (List Int) Int Int)) (H2 Ho2 : Hp) => ∃ (g_reel_ : Grp), OH K Ho2 v_reel_ s g_reel_ ∧ Zs ([r27] ++ (g_reel_ ++ amb)) H2 Ho2) (fun r H z => ⟨_, d_reel_, z⟩) ?_ ?_ ?_ ?_ ?_
    · rintro r s H Ho ⟨g_reel_, d_reel_, z⟩
      exact ⟨_, z, fun r m => mgN r m⟩
    · rintro r s H Ho H2 Ho2 ⟨g_reel_, d_reel_, z⟩ e t
      exact ⟨_, OH.mo d_reel_ e, t _ z⟩
    · rintro p o o' s H Ho hn ⟨g_reel_, d_reel_, z⟩
      exact ⟨_, d_reel_, Zs.put z hn⟩
    · intro r27 k_ v_k_ reel_ H Ho N N' e hI d_k_ hw
      obtain ⟨g_reel_, d_reel_, z⟩ := hI
      replace d_hands_ := D.mo d_hands_ e
      replace d_script_ := LV.mo d_script_ e
      have es28 := es26.trans e
      obtain rfl := d_int d_k_
      refine y_gname (σ' := [some v_script_, some v_reel_, some (V.int many_), some v_hands_, some (V.int k_), none, none, none, none, none, none, none, none, none, none]) rfl ?_
      refine ⟨rfl, ?_⟩
      refine y_yes (w_t ?_)
      refine y_call ?_
      refine y_cons ?_
      refine y_var rfl ?_
      refine y_cons ?_
      refine y_c ?_
      refine y_nil ?_
      replace z : Zs (g_reel_ ++ ([r27] ++ amb)) _ _ := z.go [[r27], g_reel_] amb [1, 0]
      refine ⟨([r27] ++ amb), _, _, _, _, _, _, rfl, z, d_reel_, (Dq.int _), ?_⟩
      refine run_mono2 hw (fun t29 reel_ hw v g_reel_ H Ho e z d30 d_reel_ => ?_)
      replace d30 : Z.D K Ho v t29 := d30
      replace d_reel_ : OH K Ho v_reel_ reel_ g_reel_ := d_reel_
      replace d_hands_ := D.mo d_hands_ e
      replace d_script_ := LV.mo d_script_ e
      have es32 := (Same.refl _).trans e
      obtain rfl := d_int d30
      replace z : Zs ([r27] ++ (g_reel_ ++ amb)) _ _ := z.go [g_reel_, [r27]] amb [1, 0]
      exact (run_ret hw) _ _ _ es32 ⟨_, d_reel_, z⟩ (Dq.int _)
    rintro t36 reel_ p33 ws34 H Ho e ⟨g_reel_, d_reel_, z⟩ d35 hw
    replace d_hands_ := D.mo d_hands_ e
    replace d_script_ := LV.mo d_script_ e
    have es37 := es26.trans e
    replace z : Zs ([(p33, HO.lst ws34)] ++ (g_reel_ ++ amb)) H Ho := z
    have o38 := OL.mk (p := p33) d35
    refine l_fr o38 z (fun Ho e z d39 => ?_)
    replace d_hands_ := D.mo d_hands_ e
    replace d_reel_ := OH.mo d_reel_ e
    replace d_script_ := LV.mo d_script_ e
    have es40 := es37.trans e
    refine l_d (K := K) (Ho := Ho) hw d39 (fun numbers_ v_numbers_ d_numbers_ hw => ?_)
    refine l_asg (fun v => [_, _, _, _, _, _, some v, _, _, _, _, _, _, _, _]) (fun _ => rfl) ?_
    refine y_make ?_
    refine y_cons ?_
    refine k_tup ?_
    refine y_cons ?_
    refine y_var rfl ?_
    refine y_cons ?_
    refine y_lc ?_
    refine k_iList ?_
    refine y_var rfl ?_
    refine k_srcL (r0 := ([] : Grp)) (LV.of d_hands_) mgN z (fun J T => ?_)
    refine y_lcG z mgN T hw (fun r41 a x H Ho N N' e z dx hw => ?_) (fun t46 H Ho e hw p43 ws44 z d45 => ?_)
    · replace z : Zs ([r41] ++ (g_reel_ ++ amb)) H Ho := z
      replace d_hands_ := D.mo d_hands_ e
      replace d_numbers_ := D.mo d_numbers_ e
      replace d_reel_ := OH.mo d_reel_ e
      replace d_script_ := LV.mo d_script_ e
      have es42 := es40.trans e
      obtain ⟨rows_, boxes_⟩ := a
      refine c_gt2 (fun v_rows_ v_boxes_ => [some v_script_, some v_reel_, some (V.int many_), some v_hands_, none, some v_numbers_, none, some v_rows_, some v_boxes_, none, none, none, none, none, none]) (fun _ _ => rfl) dx z (fun v_rows_ v_boxes_ d_rows_ d_boxes_ => ?_)
      refine ⟨rfl, ?_⟩
      refine y_yes (w_t ?_)
      replace hw := run_itT (run_bret hw) rfl
      refine y_var rfl ?_
      exact (run_ret hw) _ _ _ (Same.refl _) z d_rows_
    replace d_hands_ := D.mo d_hands_ e
    replace d_numbers_ := D.mo d_numbers_ e
    replace d_reel_ := OH.mo d_reel_ e
    replace d_script_ := LV.mo d_script_ e
    have es47 := es40.trans e
    replace z : Zs ([(p43, HO.lst ws44)] ++ (g_reel_ ++ amb)) H Ho := z
    have o48 := OL.mk (p := p43) d45
    refine y_nil ?_
    refine l_fr o48 z (fun Ho e z d49 => ?_)
    replace d_hands_ := D.mo d_hands_ e
    replace d_numbers_ := D.mo d_numbers_ e
    replace d_reel_ := OH.mo d_reel_ e
    replace d_script_ := LV.mo d_script_ e
    have es50 := es47.trans e
    refine k_tupk (K := K) (x := (many_, t46)) z (by show 2 ≤ sizeLine; decide) _ rfl (DqAll.cons (Dq.int _) (DqAll.cons d49 DqAll.nil)) (fun p H Ho e z d51 => ?_)
    replace d_hands_ := D.mo d_hands_ e
    replace d_numbers_ := D.mo d_numbers_ e
    replace d_reel_ := OH.mo d_reel_ e
    replace d_script_ := LV.mo d_script_ e
    have es52 := es50.trans e
    refine y_cons ?_
    refine y_var rfl ?_
    have d53 := (show Z.D K Ho _ (some numbers_) from d_numbers_)
    refine y_nil ?_
    refine o_mk (ns := ns_Works) z (fun a dx H Ho e z => ?_)
    replace d_hands_ := D.mo d_hands_ e
    replace d_numbers_ := D.mo d_numbers_ e
    replace d_reel_ := OH.mo d_reel_ e
    replace d_script_ := LV.mo d_script_ e
    replace d51 := D.mo d51 e
    replace d53 := D.mo d53 e
    have es54 := es52.trans e
    refine ⟨(g_reel_ ++ amb), _, a, dx, _, _, _, _, _, rfl, z, cf_Works.at_, d51, d53, ?_⟩
    refine run_mono3 hw (fun t55 hw g57 H Ho e z d56 => ⟨rfl, ?_⟩)
    replace d_hands_ := D.mo d_hands_ e
    replace d_numbers_ := D.mo d_numbers_ e
    replace d_reel_ := OH.mo d_reel_ e
    replace d_script_ := LV.mo d_script_ e
    have es58 := es54.trans e
    refine l_oG (P := OC_Works K Ho) hw z d56 (fun one_ v_one_ g_one_ z d_one_ hw => ?_)
    refine l_asg (fun v => [_, _, _, _, _, _, _, _, _, some v, _, _, _, _, _]) (fun _ => rfl) ?_
    refine k_tup ?_
    refine y_cons ?_
    refine y_meth ?_
    refine y_var rfl ?_
    refine OC_Works.met cf_Works d_one_ mg0 z (by decide +kernel) ?_
    refine y_nil ?_
    refine ⟨[], _, _, _, rfl, z.all, (OwnD.rd (P := OC_Works) d_one_ z.le (z.in_ mg0)), ?_⟩
    refine run_mono3 hw (fun t59 hw v g61 H Ho64 e62 z63 d60 => ?_)
    replace z := z.unlendO e62 z63
    replace d60 : OL K Ho v t59 g61 := OL.pu d60
    refine y_cons ?_
    refine y_call ?_
    refine y_cons ?_
    refine y_var rfl ?_
    refine y_cons ?_
    refine y_cb ?_
    refine y_cons ?_
    refine y_var rfl ?_
    refine y_nil ?_
    refine y_len (LV.of d_hands_) z ?_
    refine y_nil ?_
    refine ⟨(g61 ++ (g_one_ ++ (g_reel_ ++ amb))), _, _, _, _, _, rfl, z, ⟨_, d_one_, (mgS mg0)⟩, (Dq.int _), ?_⟩
    refine run_mono3 hw (fun t65 hw v H Ho e z d66 => ?_)
    replace d_hands_ := D.mo d_hands_ e
    replace d_numbers_ := D.mo d_numbers_ e
    replace d_one_ := OC_Works.mo d_one_ e
    replace d_reel_ := OH.mo d_reel_ e
    replace d_script_ := LV.mo d_script_ e
    replace d60 := OL.mo d60 e
    have es68 := es58.trans e
    refine y_nil ?_
    refine l_fr d60 z (fun Ho e z d69 => ?_)
    replace d_hands_ := D.mo d_hands_ e
    replace d_numbers_ := D.mo d_numbers_ e
    replace d_one_ := OC_Works.mo d_one_ e
    replace d_reel_ := OH.mo d_reel_ e
    replace d_script_ := LV.mo d_script_ e
    replace d66 := D.mo d66 e
    have es70 := es68.trans e
    refine k_tupk (K := K) (x := (t59, t65)) z (by show 2 ≤ sizeLine; decide) _ rfl (DqAll.cons d69 (DqAll.cons d66 DqAll.nil)) (fun p H Ho e z d71 => ?_)
    replace d_hands_ := D.mo d_hands_ e
    replace d_numbers_ := D.mo d_numbers_ e
    replace d_one_ := OC_Works.mo d_one_ e
    replace d_reel_ := OH.mo d_reel_ e
    replace d_script_ := LV.mo d_script_ e
    have es72 := es70.trans e
    refine l_d (K := K) (Ho := Ho) hw d71 (fun before_ v_before_ d_before_ hw => ?_)
    refine y_ifS ?_
    refine y_test ?_
    refine y_op ?_
    refine y_var rfl ?_
    refine k_tup ?_
    refine y_cons ?_
    refine y_var rfl ?_
    refine y_cons ?_
    refine y_lc ?_
    refine k_iList ?_
    refine y_var rfl ?_
    refine k_srcL (r0 := ([] : Grp)) (LV.of d_hands_) mgN z (fun J T => ?_)
    refine y_lcG z mgN T hw (fun r73 a x H Ho N N' e z dx hw => ?_) (fun t78 H Ho e hw p75 ws76 z d77 => ?_)
    · replace z : Zs ([r73] ++ (g_one_ ++ (g_reel_ ++ amb))) H Ho := z
      replace d_before_ := D.mo d_before_ e
      replace d_hands_ := D.mo d_hands_ e
      replace d_one_ := OC_Works.mo d_one_ e
      replace d_reel_ := OH.mo d_reel_ e
      replace d_script_ := LV.mo d_script_ e
      replace d_numbers_ := D.mo d_numbers_ e
      have es74 := es72.trans e
      obtain ⟨rows_, boxes_⟩ := a
      refine c_gt2 (fun v_rows_ v_boxes_ => [some v_script_, some v_reel_, some (V.int many_), some v_hands_, none, some v_numbers_, some v_one_, some v_rows_, some v_boxes_, some v_before_, none, none, none, none, none]) (fun _ _ => rfl) dx z (fun v_rows_ v_boxes_ d_rows_ d_boxes_ => ?_)
      refine ⟨rfl, ?_⟩
      refine y_yes (w_t ?_)
      replace hw := run_itT (run_bret hw) rfl
      refine y_var rfl ?_
      exact (run_ret hw) _ _ _ (Same.refl _) z d_boxes_
    replace d_before_ := D.mo d_before_ e
    replace d_hands_ := D.mo d_hands_ e
    replace d_one_ := OC_Works.mo d_one_ e
    replace d_reel_ := OH.mo d_reel_ e
    replace d_script_ := LV.mo d_script_ e
    replace d_numbers_ := D.mo d_numbers_ e
    have es79 := es72.trans e
    replace z : Zs ([(p75, HO.lst ws76)] ++ (g_one_ ++ (g_reel_ ++ amb))) H Ho := z
    have o80 := OL.mk (p := p75) d77
    refine y_nil ?_
    refine l_fr o80 z (fun Ho e z d81 => ?_)
    replace d_before_ := D.mo d_before_ e
    replace d_hands_ := D.mo d_hands_ e
    replace d_one_ := OC_Works.mo d_one_ e
    replace d_reel_ := OH.mo d_reel_ e
    replace d_script_ := LV.mo d_script_ e
    replace d_numbers_ := D.mo d_numbers_ e
    have es82 := es79.trans e
    refine k_tupk (K := K) (x := (numbers_, t78)) z (by show 2 ≤ sizeLine; decide) _ rfl (DqAll.cons d_numbers_ (DqAll.cons d81 DqAll.nil)) (fun p H Ho e z d83 => ?_)
    replace d_before_ := D.mo d_before_ e
    replace d_hands_ := D.mo d_hands_ e
    replace d_one_ := OC_Works.mo d_one_ e
    replace d_reel_ := OH.mo d_reel_ e
    replace d_script_ := LV.mo d_script_ e
    have es84 := es82.trans e
    refine y_neD (D.mo d_before_ z.le) (D.mo d83 z.le) hw.1 ?_
    replace hw := (run_gd hw).2
    refine ⟨_, rfl, ?_⟩
    refine y_cases hw (fun hb hw => ?_) (fun hb hw => ?_)
    · refine y_ret ?_
      refine y_c ?_
      replace z : Zs amb _ _ := z.go [g_one_, g_reel_] amb []
      exact (run_ret hw) _ _ _ es84 z (Dq.bl _)
    · refine y_nxS ?_
      refine l_asg (fun v => [_, _, _, _, _, _, _, _, _, _, some v, _, _, _, _]) (fun _ => rfl) ?_
      refine y_call ?_
      refine y_cons ?_
      refine y_op ?_
      refine y_var rfl ?_
      refine y_c ?_
      refine y_ixT (y := before_.1) d_before_ z ⟨_, rfl, rfl⟩ (fun w d85 => ?_)
      refine y_cons ?_
      refine y_op ?_
      refine y_var rfl ?_
      refine y_c ?_
      refine y_ixT (y := before_.2) d_before_ z ⟨_, rfl, rfl⟩ (fun w d86 => ?_)
      refine y_nil ?_
      refine ⟨(g_one_ ++ (g_reel_ ++ amb)), _, _, _, _, _, rfl, z, (LV.of d85), (LV.of d86), ?_⟩
      refine run_mono3 hw (fun t87 hw v H Ho e z d88 => ?_)
      replace d_before_ := D.mo d_before_ e
      replace d_hands_ := D.mo d_hands_ e
      replace d_one_ := OC_Works.mo d_one_ e
      replace d_reel_ := OH.mo d_reel_ e
      replace d_script_ := LV.mo d_script_ e
      have es90 := es84.trans e
      refine l_d (K := K) (Ho := Ho) hw d88 (fun due_ v_due_ d_due_ hw => ?_)
      refine y_for ?_
      refine k_iR1 ?_
      refine y_cons ?_
      refine y_op ?_
      refine y_c ?_
      refine y_cb ?_
      refine y_cons ?_
      refine y_cb ?_
      refine y_cons ?_
      refine y_var rfl ?_
      refine y_nil ?_
      refine y_len (LV.sub d_script_ (mgS (mgS mgE))) z ?_
      refine y_cons ?_
      refine y_c ?_
      refine y_nil ?_
      refine ⟨_, _, rfl, ?_⟩
      refine y_i0 ?_
      refine y_nil ?_
      refine k_srcR1 (K := K) (Ho := Ho) hw.1 (fun J T => ?_)
      replace hw := (run_gd hw).2
      refine y_forC T hw (fun (s : (H4 (List Int) (List Int) Int Int) × ObWorks × ((List Int) × (List (List Int)))) (σ : L2.St) (H Ho : Hp) => ∃ (g_reel_ : Grp) (g_one_ : Grp) (v_before_ : V) (y_k_ : Option V) (y_turn_ : Option V) (y_waiting_ : Option V) (y_told_ : Option V) (y_after_ : Option V), σ = [some v_script_, some v_reel_, some (V.int many_), some v_hands_, y_k_, some v_numbers_, some v_one_, none, none, some v_before_, some v_due_, y_turn_, y_waiting_, y_told_, y_after_] ∧ Zs (g_one_ ++ (g_reel_ ++ amb)) H Ho ∧ OH K Ho v_reel_ s.1 g_reel_ ∧ OC_Works K Ho v_one_ s.2.1 g_one_ ∧ Z.D K Ho v_before_ s.2.2) ⟨_, _, _, _, _, _, _, _, rfl, z, d_reel_, d_one_, d_before_⟩ ?_ ?_ ?_ ?_
      · intro s σ H Ho hI
        obtain ⟨reel_, one_, before_⟩ := s
        obtain ⟨g_reel_, g_one_, v_before_, y_k_, y_turn_, y_waiting_, y_told_, y_after_, rfl, z, d_reel_, d_one_, d_before_⟩ := hI
        exact ⟨_, z, mgN⟩
      · intro s σ H Ho H2 Ho2 hI e t
        obtain ⟨reel_, one_, before_⟩ := s
        obtain ⟨g_reel_, g_one_, v_before_, y_k_, y_turn_, y_waiting_, y_told_, y_after_, rfl, z, d_reel_, d_one_, d_before_⟩ := hI
        exact ⟨_, _, _, _, _, _, _, _, rfl, t _ z, OH.mo d_reel_ e, OC_Works.mo d_one_ e, D.mo d_before_ e⟩
      · intro turn_ v_turn_ s σ H Ho N B e hI d_turn_ hw
        obtain ⟨reel_, one_, before_⟩ := s
        obtain ⟨g_reel_, g_one_, v_before_, y_k_, y_turn_, y_waiting_, y_told_, y_after_, rfl, z, d_reel_, d_one_, d_before_⟩ := hI
        replace d_due_ := D.mo d_due_ e
        replace d_hands_ := D.mo d_hands_ e
        have es91 := es90.trans e
        obtain rfl := d_int d_turn_
        refine y_gname (σ' := [some v_script_, some v_reel_, some (V.int many_), some v_hands_, y_k_, some v_numbers_, some v_one_, none, none, some v_before_, some v_due_, some (V.int turn_), y_waiting_, y_told_, y_after_]) rfl ?_
        refine l_asg (fun v => [_, _, _, _, _, _, _, _, _, _, _, _, some v, _, _]) (fun _ => rfl) ?_
        refine y_lc ?_
        refine k_iR1 ?_
        refine y_cons ?_
        refine y_cb ?_
        refine y_cons ?_
        refine y_var rfl ?_
        refine y_nil ?_
        refine y_len (LV.of d_hands_) z ?_
        refine y_nil ?_
        refine k_srcR1 (K := K) (Ho := Ho) hw.1 (fun J T => ?_)
        replace hw := (run_gd hw).2
        refine y_lcG z mgN T hw (fun r92 k_ v_k_ H Ho N N' e z d_k_ hw => ?_) (fun t103 H Ho e hw p100 ws101 z d102 => ?_)
        · replace z : Zs ([r92] ++ (g_one_ ++ (g_reel_ ++ amb))) H Ho := z
          replace d_before_ := D.mo d_before_ e
          replace d_due_ := D.mo d_due_ e
          replace d_hands_ := D.mo d_hands_ e
          replace d_one_ := OC_Works.mo d_one_ e
          replace d_reel_ := OH.mo d_reel_ e
          have es93 := (Same.refl _).trans e
          obtain rfl := d_int d_k_
          refine y_gname (σ' := [some v_script_, some v_reel_, some (V.int many_), some v_hands_, some (V.int k_), some v_numbers_, some v_one_, none, none, some v_before_, some v_due_, some (V.int turn_), y_waiting_, y_told_, y_after_]) rfl ?_
          refine ⟨rfl, ?_⟩
          refine y_test ?_
          refine y_op ?_
          refine y_meth ?_
          refine y_var rfl ?_
          refine OC_Works.met cf_Works d_one_ (mgS mg0) z (by decide +kernel) ?_
          refine y_cons ?_
          refine y_var rfl ?_
          refine y_nil ?_
          refine ⟨[], _, _, _, _, _, rfl, z.all, (OwnD.rd (P := OC_Works) d_one_ z.le (z.in_ (mgS mg0))), (Dq.int _), ?_⟩
          refine run_mono3 hw (fun t94 hw v H Ho99 e97 z98 d95 => ?_)
          replace z := z.unlend e97 z98
          obtain rfl := d_str d95
          refine y_c ?_
          refine y_eqs ?_
          refine ⟨_, rfl, ?_⟩
          refine w_two (fun hb => ?_) (fun hb => ?_)
          · replace hw := run_itT (run_ret hw) hb
            refine y_var rfl ?_
            exact (run_ret hw) _ _ _ (Same.refl _) z (Dq.int _)
          · exact run_itF (run_ret hw) hb _ _ (Same.refl _) z
        replace d_before_ := D.mo d_before_ e
        replace d_due_ := D.mo d_due_ e
        replace d_hands_ := D.mo d_hands_ e
        replace d_one_ := OC_Works.mo d_one_ e
        replace d_reel_ := OH.mo d_reel_ e
        have es104 := (Same.refl _).trans e
        replace z : Zs ([(p100, HO.lst ws101)] ++ (g_one_ ++ (g_reel_ ++ amb))) H Ho := z
        have o105 := OL.mk (p := p100) d102
        refine l_fr o105 z (fun Ho e z d106 => ?_)
        replace d_before_ := D.mo d_before_ e
        replace d_due_ := D.mo d_due_ e
        replace d_hands_ := D.mo d_hands_ e
        replace d_one_ := OC_Works.mo d_one_ e
        replace d_reel_ := OH.mo d_reel_ e
        have es107 := es104.trans e
        refine l_d (K := K) (Ho := Ho) hw d106 (fun waiting_ v_waiting_ d_waiting_ hw => ?_)
        refine y_ifS ?_
        refine y_test ?_
        refine y_op ?_
        refine y_var rfl ?_
        refine k_lst ?_
        refine y_nil ?_
        refine k_lstk (K := K) (xs := ([] : (List Int))) z DqAll.nil (by show 0 ≤ sizeLine; decide) (fun H p108 ws109 z d110 => ?_)
        replace z : Zs ([(p108, HO.lst ws109)] ++ (g_one_ ++ (g_reel_ ++ amb))) H Ho := z
        have o111 := OL.mk (p := p108) d110
        refine y_eqD (D.mo d_waiting_ z.le) (LV.dp (OL.lv o111 mg0) z) hw.1 ?_
        replace hw := (run_gd hw).2
        refine ⟨_, rfl, ?_⟩
        refine y_cases hw (fun hb hw => ?_) (fun hb hw => ?_)
        · replace z : Zs (g_one_ ++ (g_reel_ ++ amb)) _ _ := z.go [[(p108, HO.lst ws109)], g_one_, g_reel_] amb [1, 2]
          refine y_ret ?_
          refine y_c ?_
          replace z : Zs amb _ _ := z.go [g_one_, g_reel_] amb []
          exact (ctl_rt (run_ret hw)) _ _ _ (es91.trans es107) z (Dq.bl _)
        · refine y_nxS ?_
          replace z : Zs (g_one_ ++ (g_reel_ ++ amb)) _ _ := z.go [[(p108, HO.lst ws109)], g_one_, g_reel_] amb [1, 2]
          refine l_asg (fun v => [_, _, _, _, some v, _, _, _, _, _, _, _, _, _, _]) (fun _ => rfl) ?_
          refine y_op ?_
          refine y_var rfl ?_
          refine y_call ?_
          refine y_cons ?_
          refine y_var rfl ?_
          refine y_cons ?_
          refine y_cb ?_
          refine y_cons ?_
          refine y_var rfl ?_
          refine y_nil ?_
          refine y_len (LV.of d_waiting_) z ?_
          refine y_nil ?_
          replace z : Zs (g_reel_ ++ (g_one_ ++ amb)) _ _ := z.go [g_one_, g_reel_] amb [1, 0]
          refine ⟨(g_one_ ++ amb), _, _, _, _, _, _, rfl, z, d_reel_, (Dq.int _), ?_⟩
          refine run_mono2 hw (fun t112 reel_ hw v g_reel_ H Ho e z d113 d_reel_ => ?_)
          replace d113 : Z.D K Ho v t112 := d113
          replace d_reel_ : OH K Ho v_reel_ reel_ g_reel_ := d_reel_
          replace d_before_ := D.mo d_before_ e
          replace d_due_ := D.mo d_due_ e
          replace d_hands_ := D.mo d_hands_ e
          replace d_one_ := OC_Works.mo d_one_ e
          replace d_waiting_ := D.mo d_waiting_ e
          have es115 := es107.trans e
          obtain rfl := d_int d113
          refine y_ixL (LV.of d_waiting_) z hw (fun t116 w d117 hw => ?_)
          obtain rfl := d_int d117
          refine l_i hw (fun k_ hw => ?_)
          refine l_asg (fun v => [_, _, _, _, _, _, _, _, _, _, _, _, _, some v, _]) (fun _ => rfl) ?_
          refine y_meth ?_
          refine y_var rfl ?_
          refine OC_Works.met cf_Works d_one_ (mgS mg0) z (by decide +kernel) ?_
          refine y_cons ?_
          refine y_var rfl ?_
          refine y_nil ?_
          replace z : Zs (g_one_ ++ (g_reel_ ++ amb)) _ _ := z.go [g_reel_, g_one_] amb [1, 0]
          refine ⟨(g_reel_ ++ amb), _, _, _, _, _, _, rfl, z, d_one_, (Dq.int _), ?_⟩
          refine run_mono2 hw (fun t118 one_ hw v g_one_ H Ho e z d119 d_one_ => ?_)
          replace d119 : Z.D K Ho v t118 := d119
          replace d_one_ : OC_Works K Ho v_one_ one_ g_one_ := d_one_
          replace d_before_ := D.mo d_before_ e
          replace d_due_ := D.mo d_due_ e
          replace d_hands_ := D.mo d_hands_ e
          replace d_reel_ := OH.mo d_reel_ e
          replace d_waiting_ := D.mo d_waiting_ e
          have es121 := es115.trans e
          refine l_d (K := K) (Ho := Ho) hw d119 (fun told_ v_told_ d_told_ hw => ?_)
          refine l_asg (fun v => [_, _, _, _, _, _, _, _, _, _, _, _, _, _, some v]) (fun _ => rfl) ?_
          refine k_tup ?_
          refine y_cons ?_
          refine y_meth ?_
          refine y_var rfl ?_
          refine OC_Works.met cf_Works d_one_ mg0 z (by decide +kernel) ?_
          refine y_nil ?_
          refine ⟨[], _, _, _, rfl, z.all, (OwnD.rd (P := OC_Works) d_one_ z.le (z.in_ mg0)), ?_⟩
          refine run_mono3 hw (fun t122 hw v g124 H Ho127 e125 z126 d123 => ?_)
          replace z := z.unlendO e125 z126
          replace d123 : OL K Ho v t122 g124 := OL.pu d123
          refine y_cons ?_
          refine y_call ?_
          refine y_cons ?_
          refine y_var rfl ?_
          refine y_cons ?_
          refine y_cb ?_
          refine y_cons ?_
          refine y_var rfl ?_
          refine y_nil ?_
          refine y_len (LV.of d_hands_) z ?_
          refine y_nil ?_
          refine ⟨(g124 ++ (g_one_ ++ (g_reel_ ++ amb))), _, _, _, _, _, rfl, z, ⟨_, d_one_, (mgS mg0)⟩, (Dq.int _), ?_⟩
          refine run_mono3 hw (fun t128 hw v H Ho e z d129 => ?_)
          replace d_before_ := D.mo d_before_ e
          replace d_due_ := D.mo d_due_ e
          replace d_hands_ := D.mo d_hands_ e
          replace d_one_ := OC_Works.mo d_one_ e
          replace d_reel_ := OH.mo d_reel_ e
          replace d_told_ := D.mo d_told_ e
          replace d_waiting_ := D.mo d_waiting_ e
          replace d123 := OL.mo d123 e
          have es131 := es121.trans e
          refine y_nil ?_
          refine l_fr d123 z (fun Ho e z d132 => ?_)
          replace d_before_ := D.mo d_before_ e
          replace d_due_ := D.mo d_due_ e
          replace d_hands_ := D.mo d_hands_ e
          replace d_one_ := OC_Works.mo d_one_ e
          replace d_reel_ := OH.mo d_reel_ e
          replace d_told_ := D.mo d_told_ e
          replace d_waiting_ := D.mo d_waiting_ e
          replace d129 := D.mo d129 e
          have es133 := es131.trans e
          refine k_tupk (K := K) (x := (t122, t128)) z (by show 2 ≤ sizeLine; decide) _ rfl (DqAll.cons d132 (DqAll.cons d129 DqAll.nil)) (fun p H Ho e z d134 => ?_)
          replace d_before_ := D.mo d_before_ e
          replace d_due_ := D.mo d_due_ e
          replace d_hands_ := D.mo d_hands_ e
          replace d_one_ := OC_Works.mo d_one_ e
          replace d_reel_ := OH.mo d_reel_ e
          replace d_told_ := D.mo d_told_ e
          replace d_waiting_ := D.mo d_waiting_ e
          have es135 := es133.trans e
          refine l_d (K := K) (Ho := Ho) hw d134 (fun after_ v_after_ d_after_ hw => ?_)
          refine y_ifS ?_
          refine y_or ?_
          refine y_not ?_
          refine y_tB ?_
          refine y_call ?_
          refine y_cons ?_
          refine y_var rfl ?_
          refine y_cons ?_
          refine y_var rfl ?_
          refine y_cons ?_
          refine y_var rfl ?_
          refine y_cons ?_
          refine y_var rfl ?_
          refine y_nil ?_
          refine ⟨(g_one_ ++ (g_reel_ ++ amb)), _, _, _, _, _, _, _, _, _, rfl, z, d_told_, d_before_, d_after_, (Dq.int _), ?_⟩
          refine run_mono3 hw (fun t136 hw v H Ho e z d137 => ?_)
          replace d_after_ := D.mo d_after_ e
          replace d_before_ := D.mo d_before_ e
          replace d_due_ := D.mo d_due_ e
          replace d_hands_ := D.mo d_hands_ e
          replace d_one_ := OC_Works.mo d_one_ e
          replace d_reel_ := OH.mo d_reel_ e
          replace d_told_ := D.mo d_told_ e
          replace d_waiting_ := D.mo d_waiting_ e
          have es139 := es135.trans e
          obtain rfl := d_bool d137
          refine ⟨_, rfl, ?_⟩
          refine w_orJ hw (fun (s : Bool) (v : Bool) (H2 : Hp) => ∃ (Ho2 : Hp), Same Ho Ho2 ∧ Zs (g_one_ ++ (g_reel_ ++ amb)) H2 Ho2 ∧ v = s) (fun hb hw => ?_) (fun hb hw => ?_) ?_
          · exact (run_ret hw) _ _ ⟨_, (Same.refl _), z, rfl⟩
          · refine y_test ?_
            refine y_op ?_
            refine y_call ?_
            refine y_cons ?_
            refine y_op ?_
            refine y_var rfl ?_
            refine y_c ?_
            refine y_ixT (y := after_.1) d_after_ z ⟨_, rfl, rfl⟩ (fun w d140 => ?_)
            refine y_cons ?_
            refine y_op ?_
            refine y_var rfl ?_
            refine y_c ?_
            refine y_ixT (y := after_.2) d_after_ z ⟨_, rfl, rfl⟩ (fun w d141 => ?_)
            refine y_nil ?_
            refine ⟨(g_one_ ++ (g_reel_ ++ amb)), _, _, _, _, _, rfl, z, (LV.of d140), (LV.of d141), ?_⟩
            refine run_mono3 hw (fun t142 hw v H Ho e z d143 => ?_)
            replace d_after_ := D.mo d_after_ e
            replace d_before_ := D.mo d_before_ e
            replace d_due_ := D.mo d_due_ e
            replace d_hands_ := D.mo d_hands_ e
            replace d_one_ := OC_Works.mo d_one_ e
            replace d_reel_ := OH.mo d_reel_ e
            replace d_told_ := D.mo d_told_ e
            replace d_waiting_ := D.mo d_waiting_ e
            have es145 := (Same.refl _).trans e
            refine y_var rfl ?_
            refine y_neD (D.mo d143 z.le) (D.mo d_due_ z.le) hw.1 ?_
            replace hw := (run_gd hw).2
            refine ⟨_, rfl, ?_⟩
            exact (run_ret hw) _ _ ⟨_, es145, z, rfl⟩
          rintro t146 v H ⟨Ho, e, z, rfl⟩ hw
          replace d_after_ := D.mo d_after_ e
          replace d_before_ := D.mo d_before_ e
          replace d_due_ := D.mo d_due_ e
          replace d_hands_ := D.mo d_hands_ e
          replace d_one_ := OC_Works.mo d_one_ e
          replace d_reel_ := OH.mo d_reel_ e
          replace d_told_ := D.mo d_told_ e
          replace d_waiting_ := D.mo d_waiting_ e
          have es149 := es139.trans e
          refine y_cases hw (fun hb hw => ?_) (fun hb hw => ?_)
          · refine y_ret ?_
            refine y_c ?_
            replace z : Zs amb _ _ := z.go [g_one_, g_reel_] amb []
            exact (ctl_rt (run_ret hw)) _ _ _ (es91.trans es149) z (Dq.bl _)
          · refine y_nxS ?_
            refine l_asg (fun v => [_, _, _, _, _, _, _, _, _, some v, _, _, _, _, _]) (fun _ => rfl) ?_
            refine y_var rfl ?_
            refine l_d (K := K) (Ho := Ho) hw d_after_ (fun before_ v_before_ d_before_ hw => ?_)
            exact ctl_nx (run_ret hw) _ _ _ es149 ⟨_, _, _, _, _, _, _, _, rfl, z, d_reel_, d_one_, d_before_⟩
      intro s σ H Ho e hI hw
      obtain ⟨reel_, one_, before_⟩ := s
      obtain ⟨g_reel_, g_one_, v_before_, y_k_, y_turn_, y_waiting_, y_told_, y_after_, rfl, z, d_reel_, d_one_, d_before_⟩ := hI
      have es150 := es90.trans e
      refine y_ret ?_
      refine y_c ?_
      replace z : Zs amb _ _ := z.go [g_one_, g_reel_] amb []
      exact (run_ret hw) _ _ _ es150 z (Dq.bl _)
end
def spLaw (K : PySem.W.Frag) : Sp := fun vs H Q _ => ∃ (a : Addr) (ns : List Int), vs = [.ref a] ∧ SqL K H a (ns.map V.int) ∧ ns.length ≤ 63 ∧ ∀ H', Q (.bl true) H'
theorem all_mk {l : PySem.W.OpenLaw} {w : World} {K : PySem.W.Frag} {h : Heap} {mg : Str → Option Value} {fa : Addr} (X : K.In h) (G : h.Ns mainGlobals mg) (hfa : mg "law" = some (.ref fa))
    {q_Hand : Addr}
    (h_gc_Hand : PySem.W.nsIn K mainGlobals "Hand" = some (some (.ref q_Hand)))
    {q_Works : Addr}
    (h_gc_Works : PySem.W.nsIn K mainGlobals "Works" = some (some (.ref q_Works)))
    (h_pg_Hand : PySem.W.plainGet K q_Hand Str.empty = true)
    (h_dh_Hand : PySem.W.hasDictIn K q_Hand = true)
    (h_po_Hand : PySem.W.plainOver K q_Hand = true)
    (h_sa_Hand : PySem.W.findIn K (.ref q_Hand) "__setattr__" = some (some (.builtin "object.__setattr__")))
    (h_na_Hand_rows : PySem.W.findIn K (.ref q_Hand) "rows" = some none)
    (h_na_Hand_at : PySem.W.findIn K (.ref q_Hand) "at" = some none)
    (h_na_Hand_held : PySem.W.findIn K (.ref q_Hand) "held" = some none)
    (h_na_Hand_spoken : PySem.W.findIn K (.ref q_Hand) "spoken" = some none)
    (h_na_Hand_way : PySem.W.findIn K (.ref q_Hand) "way" = some none)
    (h_mk_Hand : PySem.W.makesIn K q_Hand = true)
    (h_kc_Hand : PySem.W.keepIn K (.ref q_Hand) = true)
    (h_pg_Works : PySem.W.plainGet K q_Works Str.empty = true)
    (h_dh_Works : PySem.W.hasDictIn K q_Works = true)
    (h_po_Works : PySem.W.plainOver K q_Works = true)
    (h_sa_Works : PySem.W.findIn K (.ref q_Works) "__setattr__" = some (some (.builtin "object.__setattr__")))
    (h_na_Works_shared : PySem.W.findIn K (.ref q_Works) "shared" = some none)
    (h_na_Works_team : PySem.W.findIn K (.ref q_Works) "team" = some none)
    (h_na_Works_past : PySem.W.findIn K (.ref q_Works) "past" = some none)
    (h_mk_Works : PySem.W.makesIn K q_Works = true)
    (h_kc_Works : PySem.W.keepIn K (.ref q_Works) = true)
    {f1 : Addr} {od1 an1 : Option Addr} {sl1 : Array (Option Value)} {oc1 kV1 dc1 pm1 cd1 ct1 : Value}
    (a1 : PySem.W.findIn K (.ref q_Hand) "__init__" = some (some (.ref f1))) (i1 : PySem.W.isFn K (.ref f1) = true)
    (l1 : K.lookup f1 = some ⟨oc1, od1, .func (PySem.W.fnOf "__init__" "Hand.__init__" (defArgs s_Hand___init__) (defBody s_Hand___init__) (defScope s_Hand___init__) .none kV1 dc1 pm1 an1 cd1 ct1), sl1⟩)
    (c1 : PySem.W.codeIn K cd1 "Hand.__init__" = true) (k1 : PySem.W.keepIn K (.ref f1) = true)
    {f2 : Addr} {od2 an2 : Option Addr} {sl2 : Array (Option Value)} {oc2 kV2 dc2 pm2 cd2 ct2 : Value}
    (a2 : PySem.W.nsIn K mainGlobals "worth_now" = some (some (.ref f2)))
    (l2 : K.lookup f2 = some ⟨oc2, od2, .func (PySem.W.fnOf "worth_now" "worth_now" (defArgs s_worth_now) (defBody s_worth_now) (defScope s_worth_now) .none kV2 dc2 pm2 an2 cd2 ct2), sl2⟩)
    (c2 : PySem.W.codeIn K cd2 "worth_now" = true) (k2 : PySem.W.keepIn K (.ref f2) = true)
    {f3 : Addr} {od3 an3 : Option Addr} {sl3 : Array (Option Value)} {oc3 kV3 dc3 pm3 cd3 ct3 : Value}
    (a3 : PySem.W.nsIn K mainGlobals "is_so" = some (some (.ref f3)))
    (l3 : K.lookup f3 = some ⟨oc3, od3, .func (PySem.W.fnOf "is_so" "is_so" (defArgs s_is_so) (defBody s_is_so) (defScope s_is_so) .none kV3 dc3 pm3 an3 cd3 ct3), sl3⟩)
    (c3 : PySem.W.codeIn K cd3 "is_so" = true) (k3 : PySem.W.keepIn K (.ref f3) = true)
    {f4 : Addr} {od4 an4 : Option Addr} {sl4 : Array (Option Value)} {oc4 kV4 dc4 pm4 cd4 ct4 : Value}
    (a4 : PySem.W.nsIn K mainGlobals "put_in" = some (some (.ref f4)))
    (l4 : K.lookup f4 = some ⟨oc4, od4, .func (PySem.W.fnOf "put_in" "put_in" (defArgs s_put_in) (defBody s_put_in) (defScope s_put_in) .none kV4 dc4 pm4 an4 cd4 ct4), sl4⟩)
    (c4 : PySem.W.codeIn K cd4 "put_in" = true) (k4 : PySem.W.keepIn K (.ref f4) = true)
    {f5 : Addr} {od5 an5 : Option Addr} {sl5 : Array (Option Value)} {oc5 kV5 dc5 pm5 cd5 ct5 : Value}
    (a5 : PySem.W.nsIn K mainGlobals "do_own" = some (some (.ref f5)))
    (l5 : K.lookup f5 = some ⟨oc5, od5, .func (PySem.W.fnOf "do_own" "do_own" (defArgs s_do_own) (defBody s_do_own) (defScope s_do_own) .none kV5 dc5 pm5 an5 cd5 ct5), sl5⟩)
    (c5 : PySem.W.codeIn K cd5 "do_own" = true) (k5 : PySem.W.keepIn K (.ref f5) = true)
    {f6 : Addr} {od6 an6 : Option Addr} {sl6 : Array (Option Value)} {oc6 kV6 dc6 pm6 cd6 ct6 : Value}
    (a6 : PySem.W.nsIn K mainGlobals "lead_on" = some (some (.ref f6)))
    (l6 : K.lookup f6 = some ⟨oc6, od6, .func (PySem.W.fnOf "lead_on" "lead_on" (defArgs s_lead_on) (defBody s_lead_on) (defScope s_lead_on) .none kV6 dc6 pm6 an6 cd6 ct6), sl6⟩)
    (c6 : PySem.W.codeIn K cd6 "lead_on" = true) (k6 : PySem.W.keepIn K (.ref f6) = true)
    {f7 : Addr} {od7 an7 : Option Addr} {sl7 : Array (Option Value)} {oc7 kV7 dc7 pm7 cd7 ct7 : Value}
    (a7 : PySem.W.nsIn K mainGlobals "do_touch" = some (some (.ref f7)))
    (l7 : K.lookup f7 = some ⟨oc7, od7, .func (PySem.W.fnOf "do_touch" "do_touch" (defArgs s_do_touch) (defBody s_do_touch) (defScope s_do_touch) .none kV7 dc7 pm7 an7 cd7 ct7), sl7⟩)
    (c7 : PySem.W.codeIn K cd7 "do_touch" = true) (k7 : PySem.W.keepIn K (.ref f7) = true)
    {f8 : Addr} {od8 an8 : Option Addr} {sl8 : Array (Option Value)} {oc8 kV8 dc8 pm8 cd8 ct8 : Value}
    (a8 : PySem.W.nsIn K mainGlobals "hand_of" = some (some (.ref f8)))
    (l8 : K.lookup f8 = some ⟨oc8, od8, .func (PySem.W.fnOf "hand_of" "hand_of" (defArgs s_hand_of) (defBody s_hand_of) (defScope s_hand_of) .none kV8 dc8 pm8 an8 cd8 ct8), sl8⟩)
    (c8 : PySem.W.codeIn K cd8 "hand_of" = true) (k8 : PySem.W.keepIn K (.ref f8) = true)
    {f9 : Addr} {od9 an9 : Option Addr} {sl9 : Array (Option Value)} {oc9 kV9 dc9 pm9 cd9 ct9 : Value}
    (a9 : PySem.W.nsIn K mainGlobals "first_numbers" = some (some (.ref f9)))
    (l9 : K.lookup f9 = some ⟨oc9, od9, .func (PySem.W.fnOf "first_numbers" "first_numbers" (defArgs s_first_numbers) (defBody s_first_numbers) (defScope s_first_numbers) .none kV9 dc9 pm9 an9 cd9 ct9), sl9⟩)
    (c9 : PySem.W.codeIn K cd9 "first_numbers" = true) (k9 : PySem.W.keepIn K (.ref f9) = true)
    {f10 : Addr} {od10 an10 : Option Addr} {sl10 : Array (Option Value)} {oc10 kV10 dc10 pm10 cd10 ct10 : Value}
    (a10 : PySem.W.findIn K (.ref q_Works) "__init__" = some (some (.ref f10))) (i10 : PySem.W.isFn K (.ref f10) = true)
    {dT10 : Addr} {tc10 : Value} {td10 : Option Addr} {tn10 : Nat} {tsl10 : Array (Option Value)}
    (l10 : K.lookup f10 = some ⟨oc10, od10, .func (PySem.W.fnOf "__init__" "Works.__init__" (defArgs s_Works___init__) (defBody s_Works___init__) (defScope s_Works___init__) (.ref dT10) kV10 dc10 pm10 an10 cd10 ct10), sl10⟩)
    (t10 : K.lookup dT10 = some ⟨tc10, td10, .seq #[.none] tn10, tsl10⟩)
    (c10 : PySem.W.codeIn K cd10 "Works.__init__" = true) (k10 : PySem.W.keepIn K (.ref f10) = true)
    {f11 : Addr} {od11 an11 : Option Addr} {sl11 : Array (Option Value)} {oc11 kV11 dc11 pm11 cd11 ct11 : Value}
    (a11 : PySem.W.findIn K (.ref q_Works) "turn" = some (some (.ref f11))) (i11 : PySem.W.isFn K (.ref f11) = true)
    (l11 : K.lookup f11 = some ⟨oc11, od11, .func (PySem.W.fnOf "turn" "Works.turn" (defArgs s_Works_turn) (defBody s_Works_turn) (defScope s_Works_turn) .none kV11 dc11 pm11 an11 cd11 ct11), sl11⟩)
    (c11 : PySem.W.codeIn K cd11 "Works.turn" = true) (k11 : PySem.W.keepIn K (.ref f11) = true)
    {f12 : Addr} {od12 an12 : Option Addr} {sl12 : Array (Option Value)} {oc12 kV12 dc12 pm12 cd12 ct12 : Value}
    (a12 : PySem.W.findIn K (.ref q_Works) "cells" = some (some (.ref f12))) (i12 : PySem.W.isFn K (.ref f12) = true)
    (l12 : K.lookup f12 = some ⟨oc12, od12, .func (PySem.W.fnOf "cells" "Works.cells" (defArgs s_Works_cells) (defBody s_Works_cells) (defScope s_Works_cells) .none kV12 dc12 pm12 an12 cd12 ct12), sl12⟩)
    (c12 : PySem.W.codeIn K cd12 "Works.cells" = true) (k12 : PySem.W.keepIn K (.ref f12) = true)
    {f13 : Addr} {od13 an13 : Option Addr} {sl13 : Array (Option Value)} {oc13 kV13 dc13 pm13 cd13 ct13 : Value}
    (a13 : PySem.W.findIn K (.ref q_Works) "boxes" = some (some (.ref f13))) (i13 : PySem.W.isFn K (.ref f13) = true)
    (l13 : K.lookup f13 = some ⟨oc13, od13, .func (PySem.W.fnOf "boxes" "Works.boxes" (defArgs s_Works_boxes) (defBody s_Works_boxes) (defScope s_Works_boxes) .none kV13 dc13 pm13 an13 cd13 ct13), sl13⟩)
    (c13 : PySem.W.codeIn K cd13 "Works.boxes" = true) (k13 : PySem.W.keepIn K (.ref f13) = true)
    {f14 : Addr} {od14 an14 : Option Addr} {sl14 : Array (Option Value)} {oc14 kV14 dc14 pm14 cd14 ct14 : Value}
    (a14 : PySem.W.findIn K (.ref q_Works) "how" = some (some (.ref f14))) (i14 : PySem.W.isFn K (.ref f14) = true)
    (l14 : K.lookup f14 = some ⟨oc14, od14, .func (PySem.W.fnOf "how" "Works.how" (defArgs s_Works_how) (defBody s_Works_how) (defScope s_Works_how) .none kV14 dc14 pm14 an14 cd14 ct14), sl14⟩)
    (c14 : PySem.W.codeIn K cd14 "Works.how" = true) (k14 : PySem.W.keepIn K (.ref f14) = true)
    {f15 : Addr} {od15 an15 : Option Addr} {sl15 : Array (Option Value)} {oc15 kV15 dc15 pm15 cd15 ct15 : Value}
    (a15 : PySem.W.nsIn K mainGlobals "_law_reel" = some (some (.ref f15)))
    (l15 : K.lookup f15 = some ⟨oc15, od15, .func (PySem.W.fnOf "_law_reel" "_law_reel" (defArgs s_law_reel) (defBody s_law_reel) (defScope s_law_reel) .none kV15 dc15 pm15 an15 cd15 ct15), sl15⟩)
    (c15 : PySem.W.codeIn K cd15 "_law_reel" = true) (k15 : PySem.W.keepIn K (.ref f15) = true)
    {f16 : Addr} {od16 an16 : Option Addr} {sl16 : Array (Option Value)} {oc16 kV16 dc16 pm16 cd16 ct16 : Value}
    (a16 : PySem.W.nsIn K mainGlobals "_law_draw" = some (some (.ref f16)))
    (l16 : K.lookup f16 = some ⟨oc16, od16, .func (PySem.W.fnOf "_law_draw" "_law_draw" (defArgs s_law_draw) (defBody s_law_draw) (defScope s_law_draw) .none kV16 dc16 pm16 an16 cd16 ct16), sl16⟩)
    (c16 : PySem.W.codeIn K cd16 "_law_draw" = true) (k16 : PySem.W.keepIn K (.ref f16) = true)
    {f17 : Addr} {od17 an17 : Option Addr} {sl17 : Array (Option Value)} {oc17 kV17 dc17 pm17 cd17 ct17 : Value}
    (a17 : PySem.W.nsIn K mainGlobals "_law_row" = some (some (.ref f17)))
    (l17 : K.lookup f17 = some ⟨oc17, od17, .func (PySem.W.fnOf "_law_row" "_law_row" (defArgs s_law_row) (defBody s_law_row) (defScope s_law_row) .none kV17 dc17 pm17 an17 cd17 ct17), sl17⟩)
    (c17 : PySem.W.codeIn K cd17 "_law_row" = true) (k17 : PySem.W.keepIn K (.ref f17) = true)
    {f18 : Addr} {od18 an18 : Option Addr} {sl18 : Array (Option Value)} {oc18 kV18 dc18 pm18 cd18 ct18 : Value}
    (a18 : PySem.W.nsIn K mainGlobals "_law_hand" = some (some (.ref f18)))
    (l18 : K.lookup f18 = some ⟨oc18, od18, .func (PySem.W.fnOf "_law_hand" "_law_hand" (defArgs s_law_hand) (defBody s_law_hand) (defScope s_law_hand) .none kV18 dc18 pm18 an18 cd18 ct18), sl18⟩)
    (c18 : PySem.W.codeIn K cd18 "_law_hand" = true) (k18 : PySem.W.keepIn K (.ref f18) = true)
    {f19 : Addr} {od19 an19 : Option Addr} {sl19 : Array (Option Value)} {oc19 kV19 dc19 pm19 cd19 ct19 : Value}
    (a19 : PySem.W.nsIn K mainGlobals "_law_boxes" = some (some (.ref f19)))
    (l19 : K.lookup f19 = some ⟨oc19, od19, .func (PySem.W.fnOf "_law_boxes" "_law_boxes" (defArgs s_law_boxes) (defBody s_law_boxes) (defScope s_law_boxes) .none kV19 dc19 pm19 an19 cd19 ct19), sl19⟩)
    (c19 : PySem.W.codeIn K cd19 "_law_boxes" = true) (k19 : PySem.W.keepIn K (.ref f19) = true)
    {f20 : Addr} {od20 an20 : Option Addr} {sl20 : Array (Option Value)} {oc20 kV20 dc20 pm20 cd20 ct20 : Value}
    (a20 : PySem.W.nsIn K mainGlobals "_law_sorted" = some (some (.ref f20)))
    (l20 : K.lookup f20 = some ⟨oc20, od20, .func (PySem.W.fnOf "_law_sorted" "_law_sorted" (defArgs s_law_sorted) (defBody s_law_sorted) (defScope s_law_sorted) .none kV20 dc20 pm20 an20 cd20 ct20), sl20⟩)
    (c20 : PySem.W.codeIn K cd20 "_law_sorted" = true) (k20 : PySem.W.keepIn K (.ref f20) = true)
    {f21 : Addr} {od21 an21 : Option Addr} {sl21 : Array (Option Value)} {oc21 kV21 dc21 pm21 cd21 ct21 : Value}
    (a21 : PySem.W.nsIn K mainGlobals "_law_right" = some (some (.ref f21)))
    (l21 : K.lookup f21 = some ⟨oc21, od21, .func (PySem.W.fnOf "_law_right" "_law_right" (defArgs s_law_right) (defBody s_law_right) (defScope s_law_right) .none kV21 dc21 pm21 an21 cd21 ct21), sl21⟩)
    (c21 : PySem.W.codeIn K cd21 "_law_right" = true) (k21 : PySem.W.keepIn K (.ref f21) = true)
    {f22 : Addr} {od22 an22 : Option Addr} {sl22 : Array (Option Value)} {oc22 kV22 dc22 pm22 cd22 ct22 : Value}
    (a22 : PySem.W.nsIn K mainGlobals "law" = some (some (.ref f22)))
    (l22 : K.lookup f22 = some ⟨oc22, od22, .func (PySem.W.fnOf "law" "law" (defArgs s_law) (defBody s_law) (defScope s_law) .none kV22 dc22 pm22 an22 cd22 ct22), sl22⟩)
    (c22 : PySem.W.codeIn K cd22 "law" = true) (k22 : PySem.W.keepIn K (.ref f22) = true)
    (z_list : PySem.W.nsIn K mainGlobals "list" = some none)
    (z_len : PySem.W.nsIn K mainGlobals "len" = some none)
    (z_range : PySem.W.nsIn K mainGlobals "range" = some none)
    (z_int : PySem.W.nsIn K mainGlobals "int" = some none)
    (z_sum : PySem.W.nsIn K mainGlobals "sum" = some none)
    (z_sorted : PySem.W.nsIn K mainGlobals "sorted" = some none)
    (z_min : PySem.W.nsIn K mainGlobals "min" = some none)
    {tk_LETTERS : Tok} {x_LETTERS : Str} (g_LETTERS : PySem.W.nsIn K mainGlobals "LETTERS" = some (some (.str x_LETTERS tk_LETTERS)))
    (e_LETTERS : x_LETTERS = ("abcdefgh" : Str))
    {tk_ROUND : Tok} (g_ROUND : PySem.W.nsIn K mainGlobals "ROUND" = some (some (.int 1000 tk_ROUND)))
    {tk_MOST_OWN : Tok} (g_MOST_OWN : PySem.W.nsIn K mainGlobals "MOST_OWN" = some (some (.int 60 tk_MOST_OWN))) :
    ∃ fd : FuncData, (∀ (s : Shared) (v : Value), BindsTo s fd ⟨[v], []⟩ [("script", v)]) ∧ ∀ base : Heap, K.In base → base.Ns mainGlobals mg → FnOk l.prog w K mg base CX0 10 fa fd ["script"] (spLaw K) := by
  have e := hfa.symm.trans (PySem.W.mg_of X G a22)
  cases e
  refine ⟨PySem.W.fnOf "law" "law" (defArgs s_law) (defBody s_law) (defScope s_law) .none kV22 dc22 pm22 an22 cd22 ct22, fun s v => .of_eq rfl, fun base _ _ => ?_⟩
  have cf_Hand : CF K q_Hand "Hand" ns_Hand := ⟨h_gc_Hand, ⟨h_pg_Hand, h_dh_Hand, h_po_Hand, h_sa_Hand⟩, (by unfold ns_Hand NoAttr; exact List.forall_mem_cons.mpr ⟨h_na_Hand_rows, List.forall_mem_cons.mpr ⟨h_na_Hand_at, List.forall_mem_cons.mpr ⟨h_na_Hand_held, List.forall_mem_cons.mpr ⟨h_na_Hand_spoken, List.forall_mem_cons.mpr ⟨h_na_Hand_way, fun _ h => nomatch h⟩⟩⟩⟩⟩), by decide, by decide⟩
  have cf_Works : CF K q_Works "Works" ns_Works := ⟨h_gc_Works, ⟨h_pg_Works, h_dh_Works, h_po_Works, h_sa_Works⟩, (by unfold ns_Works NoAttr; exact List.forall_mem_cons.mpr ⟨h_na_Works_shared, List.forall_mem_cons.mpr ⟨h_na_Works_team, List.forall_mem_cons.mpr ⟨h_na_Works_past, fun _ h => nomatch h⟩⟩⟩), by decide, by decide⟩
  have F1 := fun_mk (st := s_Hand___init__) l1 c1 k1
  have b1 := F1.binds (ps := ["self", "rows"]) fun _ _ _ _ _ _ us hl => match us, hl with | [_, _], _ => rfl
  have F2 := fun_mk (st := s_worth_now) l2 c2 k2
  have b2 := F2.binds (ps := ["held", "told"]) fun _ _ _ _ _ _ us hl => match us, hl with | [_, _], _ => rfl
  have F3 := fun_mk (st := s_is_so) l3 c3 k3
  have b3 := F3.binds (ps := ["held", "sign", "one", "other"]) fun _ _ _ _ _ _ us hl => match us, hl with | [_, _, _, _], _ => rfl
  have F4 := fun_mk (st := s_put_in) l4 c4 k4
  have b4 := F4.binds (ps := ["hand", "box", "number"]) fun _ _ _ _ _ _ us hl => match us, hl with | [_, _, _], _ => rfl
  have F5 := fun_mk (st := s_do_own) l5 c5 k5
  have b5 := F5.binds (ps := ["hand", "row"]) fun _ _ _ _ _ _ us hl => match us, hl with | [_, _], _ => rfl
  have F6 := fun_mk (st := s_lead_on) l6 c6 k6
  have b6 := F6.binds (ps := ["hand"]) fun _ _ _ _ _ _ us hl => match us, hl with | [_], _ => rfl
  have F7 := fun_mk (st := s_do_touch) l7 c7 k7
  have b7 := F7.binds (ps := ["hand", "shared"]) fun _ _ _ _ _ _ us hl => match us, hl with | [_, _], _ => rfl
  have F8 := fun_mk (st := s_hand_of) l8 c8 k8
  have b8 := F8.binds (ps := ["team", "number"]) fun _ _ _ _ _ _ us hl => match us, hl with | [_, _], _ => rfl
  have F9 := fun_mk (st := s_first_numbers) l9 c9 k9
  have b9 := F9.binds (ps := ["many", "numbers"]) fun _ _ _ _ _ _ us hl => match us, hl with | [_, _], _ => rfl
  have F10 := fund_mkN (st := s_Works___init__) l10 c10 k10 t10
  have b10 := F10.posN (ps := ["self", "program", "cells"]) 3 rfl fun _ _ _ _ _ _ _ us its hu hi => match us, its, hu, hi with | [_, _, _], [_], _, _ => ⟨_, rfl, rfl⟩
  have bd10 := F10.dflN (ps := ["self", "program", "cells"]) 2 rfl fun _ _ _ _ _ _ _ us its hu hi => match us, its, hu, hi with | [_, _], [_], _, _ => ⟨_, rfl, rfl⟩
  have kb10 := F10.kwN (ps := ["self", "program", "cells"]) (b := "cells") 2 fun _ _ _ _ _ _ _ us its ws hu hi hw => match us, its, ws, hu, hi, hw with | [_, _], [_], [_], _, _, _ => ⟨_, rfl, rfl⟩
  have F11 := fun_mk (st := s_Works_turn) l11 c11 k11
  have b11 := F11.binds (ps := ["self", "hand"]) fun _ _ _ _ _ _ us hl => match us, hl with | [_, _], _ => rfl
  have F12 := fun_mk (st := s_Works_cells) l12 c12 k12
  have b12 := F12.binds (ps := ["self"]) fun _ _ _ _ _ _ us hl => match us, hl with | [_], _ => rfl
  have F13 := fun_mk (st := s_Works_boxes) l13 c13 k13
  have b13 := F13.binds (ps := ["self", "hand"]) fun _ _ _ _ _ _ us hl => match us, hl with | [_, _], _ => rfl
  have F14 := fun_mk (st := s_Works_how) l14 c14 k14
  have b14 := F14.binds (ps := ["self", "hand"]) fun _ _ _ _ _ _ us hl => match us, hl with | [_, _], _ => rfl
  have F15 := fun_mk (st := s_law_reel) l15 c15 k15
  have b15 := F15.binds (ps := ["script"]) fun _ _ _ _ _ _ us hl => match us, hl with | [_], _ => rfl
  have F16 := fun_mk (st := s_law_draw) l16 c16 k16
  have b16 := F16.binds (ps := ["reel", "many"]) fun _ _ _ _ _ _ us hl => match us, hl with | [_, _], _ => rfl
  have F17 := fun_mk (st := s_law_row) l17 c17 k17
  have b17 := F17.binds (ps := ["reel", "at", "size", "many"]) fun _ _ _ _ _ _ us hl => match us, hl with | [_, _, _, _], _ => rfl
  have F18 := fun_mk (st := s_law_hand) l18 c18 k18
  have b18 := F18.binds (ps := ["reel", "many"]) fun _ _ _ _ _ _ us hl => match us, hl with | [_, _], _ => rfl
  have F19 := fun_mk (st := s_law_boxes) l19 c19 k19
  have b19 := F19.binds (ps := ["one", "many"]) fun _ _ _ _ _ _ us hl => match us, hl with | [_, _], _ => rfl
  have F20 := fun_mk (st := s_law_sorted) l20 c20 k20
  have b20 := F20.binds (ps := ["numbers", "boxes"]) fun _ _ _ _ _ _ us hl => match us, hl with | [_, _], _ => rfl
  have F21 := fun_mk (st := s_law_right) l21 c21 k21
  have b21 := F21.binds (ps := ["told", "before", "after", "k"]) fun _ _ _ _ _ _ us hl => match us, hl with | [_, _, _, _], _ => rfl
  have F22 := fun_mk (st := s_law) l22 c22 k22
  have b22 := F22.binds (ps := ["script"]) fun _ _ _ _ _ _ us hl => match us, hl with | [_], _ => rfl
  have o1 := ok_Hand___init__ (cl := (fun _ => 0)) (P := l.prog) (w := w) (mg := mg) (base := base) F1 (PySem.W.mg_none_of X G z_list) (PySem.W.mg_none_of X G z_len) (e_LETTERS ▸ PySem.W.mg_of X G g_LETTERS) cf_Hand
  have c_Hand___init__ : KCal l.prog w K mg base CX0 q_Hand "Hand" ["self", "rows"] 1 (sp_Hand___init__ K (fun _ => 0)) f1 _ := ⟨o1, ⟨h_mk_Hand, a1, i1, h_kc_Hand⟩, PySem.W.mg_of X G h_gc_Hand, b1⟩
  have o2 := ok_worth_now (cl := (fun _ => 0)) (P := l.prog) (w := w) (mg := mg) (base := base) F2 (PySem.W.mg_of X G a2) k2 b2 (e_LETTERS ▸ PySem.W.mg_of X G g_LETTERS) (PySem.W.mg_of X G g_ROUND)
  have c_worth_now : Cal l.prog w K mg base CX0 "worth_now" ["held", "told"] 4 (sp_worth_now K (fun _ => 0)) f2 _ := ⟨o2, PySem.W.mg_of X G a2, k2, b2⟩
  have o3 := ok_is_so (cl := (fun _ => 0)) (P := l.prog) (w := w) (mg := mg) (base := base) F3 c_worth_now
  have c_is_so : Cal l.prog w K mg base CX0 "is_so" ["held", "sign", "one", "other"] 5 (sp_is_so K (fun _ => 0)) f3 _ := ⟨o3, PySem.W.mg_of X G a3, k3, b3⟩
  have o4 := ok_put_in (cl := (fun _ => 0)) (P := l.prog) (w := w) (mg := mg) (base := base) F4 (e_LETTERS ▸ PySem.W.mg_of X G g_LETTERS) cf_Hand
  have c_put_in : Cal l.prog w K mg base CX0 "put_in" ["hand", "box", "number"] 1 (sp_put_in K (fun _ => 0)) f4 _ := ⟨o4, PySem.W.mg_of X G a4, k4, b4⟩
  have o5 := ok_do_own (cl := (fun _ => 0)) (P := l.prog) (w := w) (mg := mg) (base := base) F5 c_put_in c_worth_now c_is_so cf_Hand
  have c_do_own : Cal l.prog w K mg base CX0 "do_own" ["hand", "row"] 6 (sp_do_own K (fun _ => 0)) f5 _ := ⟨o5, PySem.W.mg_of X G a5, k5, b5⟩
  have o6 := ok_lead_on (cl := (fun _ => 0)) (P := l.prog) (w := w) (mg := mg) (base := base) F6 c_do_own (PySem.W.mg_none_of X G z_range) (PySem.W.mg_none_of X G z_len) (PySem.W.mg_of X G g_MOST_OWN) cf_Hand
  have c_lead_on : Cal l.prog w K mg base CX0 "lead_on" ["hand"] 7 (sp_lead_on K (fun _ => 0)) f6 _ := ⟨o6, PySem.W.mg_of X G a6, k6, b6⟩
  have o7 := ok_do_touch (cl := (fun _ => 0)) (P := l.prog) (w := w) (mg := mg) (base := base) F7 c_worth_now c_put_in cf_Hand
  have c_do_touch : Cal l.prog w K mg base CX0 "do_touch" ["hand", "shared"] 5 (sp_do_touch K (fun _ => 0)) f7 _ := ⟨o7, PySem.W.mg_of X G a7, k7, b7⟩
  have o8 := ok_hand_of (cl := (fun _ => 0)) (P := l.prog) (w := w) (mg := mg) (base := base) F8 (PySem.W.mg_none_of X G z_len)
  have c_hand_of : Cal l.prog w K mg base CX0 "hand_of" ["team", "number"] 1 (sp_hand_of K (fun _ => 0)) f8 _ := ⟨o8, PySem.W.mg_of X G a8, k8, b8⟩
  have o9 := ok_first_numbers (cl := (fun _ => 0)) (P := l.prog) (w := w) (mg := mg) (base := base) F9 (PySem.W.mg_none_of X G z_len) (PySem.W.mg_none_of X G z_list) (PySem.W.mg_of X G g_ROUND)
  have c_first_numbers : Cal l.prog w K mg base CX0 "first_numbers" ["many", "numbers"] 1 (sp_first_numbers K (fun _ => 0)) f9 _ := ⟨o9, PySem.W.mg_of X G a9, k9, b9⟩
  have o10 := ok_Works___init__ (cl := (fun _ => 0)) (P := l.prog) (w := w) (mg := mg) (base := base) F10 c_first_numbers c_Hand___init__ c_lead_on cf_Works cf_Hand
  have c_Works___init__ : KCal l.prog w K mg base CX0 q_Works "Works" ["self", "program", "cells"] 8 (sp_Works___init__ K (fun _ => 0)) f10 _ := ⟨o10, ⟨h_mk_Works, a10, i10, h_kc_Works⟩, PySem.W.mg_of X G h_gc_Works, b10⟩
  have o11 := ok_Works_turn (cl := (fun _ => 0)) (P := l.prog) (w := w) (mg := mg) (base := base) F11 c_hand_of c_do_touch c_lead_on cf_Works cf_Hand
  have c_Works_turn : MCal l.prog w K mg base CX0 q_Works "turn" ["self", "hand"] 8 (sp_Works_turn K (fun _ => 0)) f11 _ := ⟨o11, ⟨a11, i11, k11⟩, b11⟩
  have o12 := ok_Works_cells (cl := (fun _ => 0)) (P := l.prog) (w := w) (mg := mg) (base := base) F12 (PySem.W.mg_none_of X G z_list) cf_Works
  have c_Works_cells : MCal l.prog w K mg base CX0 q_Works "cells" ["self"] 1 (sp_Works_cells K (fun _ => 0)) f12 _ := ⟨o12, ⟨a12, i12, k12⟩, b12⟩
  have o_hand_of_D := ok_hand_of_D (cl := (fun _ => 0)) (P := l.prog) (w := w) (mg := mg) (base := base) F8 (PySem.W.mg_none_of X G z_len)
  have c_hand_of_D : Cal l.prog w K mg base CX0 "hand_of" ["team", "number"] 1 (sp_hand_of_D K (fun _ => 0)) f8 _ := ⟨o_hand_of_D, PySem.W.mg_of X G a8, k8, b8⟩
  have o13 := ok_Works_boxes (cl := (fun _ => 0)) (P := l.prog) (w := w) (mg := mg) (base := base) F13 c_hand_of_D (PySem.W.mg_none_of X G z_list) cf_Works cf_Hand
  have c_Works_boxes : MCal l.prog w K mg base CX0 q_Works "boxes" ["self", "hand"] 2 (sp_Works_boxes K (fun _ => 0)) f13 _ := ⟨o13, ⟨a13, i13, k13⟩, b13⟩
  have o14 := ok_Works_how (cl := (fun _ => 0)) (P := l.prog) (w := w) (mg := mg) (base := base) F14 c_hand_of_D cf_Works cf_Hand
  have c_Works_how : MCal l.prog w K mg base CX0 q_Works "how" ["self", "hand"] 2 (sp_Works_how K (fun _ => 0)) f14 _ := ⟨o14, ⟨a14, i14, k14⟩, b14⟩
  have o15 := ok_law_reel (cl := (fun _ => 0)) (P := l.prog) (w := w) (mg := mg) (base := base) F15 
  have c_law_reel : Cal l.prog w K mg base CX0 "_law_reel" ["script"] 1 (sp_law_reel K (fun _ => 0)) f15 _ := ⟨o15, PySem.W.mg_of X G a15, k15, b15⟩
  have o16 := ok_law_draw (cl := (fun _ => 0)) (P := l.prog) (w := w) (mg := mg) (base := base) F16 (PySem.W.mg_none_of X G z_int) (PySem.W.mg_none_of X G z_len)
  have c_law_draw : Cal l.prog w K mg base CX0 "_law_draw" ["reel", "many"] 1 (sp_law_draw K (fun _ => 0)) f16 _ := ⟨o16, PySem.W.mg_of X G a16, k16, b16⟩
  have o17 := ok_law_row (cl := (fun _ => 0)) (P := l.prog) (w := w) (mg := mg) (base := base) F17 c_law_draw
  have c_law_row : Cal l.prog w K mg base CX0 "_law_row" ["reel", "at", "size", "many"] 2 (sp_law_row K (fun _ => 0)) f17 _ := ⟨o17, PySem.W.mg_of X G a17, k17, b17⟩
  have o18 := ok_law_hand (cl := (fun _ => 0)) (P := l.prog) (w := w) (mg := mg) (base := base) F18 c_law_draw c_law_row (PySem.W.mg_none_of X G z_range) (PySem.W.mg_none_of X G z_len)
  have c_law_hand : Cal l.prog w K mg base CX0 "_law_hand" ["reel", "many"] 3 (sp_law_hand K (fun _ => 0)) f18 _ := ⟨o18, PySem.W.mg_of X G a18, k18, b18⟩
  have o19 := ok_law_boxes (cl := (fun _ => 0)) (P := l.prog) (w := w) (mg := mg) (base := base) F19 c_Works_boxes (PySem.W.mg_none_of X G z_range) cf_Works
  have c_law_boxes : Cal l.prog w K mg base CX0 "_law_boxes" ["one", "many"] 3 (sp_law_boxes K (fun _ => 0)) f19 _ := ⟨o19, PySem.W.mg_of X G a19, k19, b19⟩
  have o20 := ok_law_sorted (cl := (fun _ => 0)) (P := l.prog) (w := w) (mg := mg) (base := base) F20 (PySem.W.mg_none_of X G z_list) (PySem.W.mg_none_of X G z_sum) (PySem.W.mg_none_of X G z_sorted)
  have c_law_sorted : Cal l.prog w K mg base CX0 "_law_sorted" ["numbers", "boxes"] 1 (sp_law_sorted K (fun _ => 0)) f20 _ := ⟨o20, PySem.W.mg_of X G a20, k20, b20⟩
  have o21 := ok_law_right (cl := (fun _ => 0)) (P := l.prog) (w := w) (mg := mg) (base := base) F21 (PySem.W.mg_none_of X G z_list) (PySem.W.mg_none_of X G z_len) (PySem.W.mg_none_of X G z_range)
  have c_law_right : Cal l.prog w K mg base CX0 "_law_right" ["told", "before", "after", "k"] 1 (sp_law_right K (fun _ => 0)) f21 _ := ⟨o21, PySem.W.mg_of X G a21, k21, b21⟩
  have o22 := ok_law (cl := (fun _ => 0)) (P := l.prog) (w := w) (mg := mg) (base := base) F22 c_law_reel c_law_draw c_law_hand c_Works___init__ c_Works_cells c_law_boxes c_law_sorted c_Works_how c_Works_turn c_law_right (PySem.W.mg_none_of X G z_range) (PySem.W.mg_none_of X G z_len) (PySem.W.mg_none_of X G z_min) cf_Works
  refine FnOk.imp o22 fun vs H Q E hq => ?_
  obtain ⟨a, ns, rfl, hS, hl, q⟩ := hq
  refine ⟨[], H, .ref a, ns, rfl, ⟨Same.refl _, (fun r hr => nomatch hr), List.nodup_nil, (fun r hr => nomatch hr)⟩, ⟨a, _, rfl, ints_dl, .inl hS⟩, run_mono' (law_true hl) fun r hr v H' Ho' e z d => ?_⟩
  subst hr
  rw [d_bool d]
  exact q H'
end M
open PySem PySem.W PyProof.Rows
set_option maxHeartbeats 0 in
theorem PySem.Challenge.cw_fewnotes_k85_whole_swapped_numbers_stay_holds : PySem.Challenge.rw_fewnotes_k85_whole_swapped_numbers_stay.Holds := by
  w_on; o_law; k_head; (case hw => w_witness2)
  k_fill
  refine L2.walk_of (l := PySem.Challenge.rw_fewnotes_k85_whole_swapped_numbers_stay) (n := 63) (k := 10) (x := "script") (CX := fun _ => L2.CX0) (sp := fun w => M.spLaw _) rfl (by decide) rfl ⟨rfl, by decide, by decide⟩ (fun w h Y => PySem.W.kIn_of Y) ?F (fun _ _ a ns hl _ hS => ⟨a, ns, rfl, hS, hl, fun _ => rfl⟩) (fun _ _ _ _ _ h => h)
  case F =>
    intro w mg fa h KX G hmg
    refine' M.all_mk KX G hmg ?h_gc_Hand ?h_gc_Works ?h_pg_Hand ?h_dh_Hand ?h_po_Hand ?h_sa_Hand ?h_na_Hand_rows ?h_na_Hand_at ?h_na_Hand_held ?h_na_Hand_spoken ?h_na_Hand_way ?h_mk_Hand ?h_kc_Hand ?h_pg_Works ?h_dh_Works ?h_po_Works ?h_sa_Works ?h_na_Works_shared ?h_na_Works_team ?h_na_Works_past ?h_mk_Works ?h_kc_Works ?a1 ?i1 ?l1 ?c1 ?k1 ?a2 ?l2 ?c2 ?k2 ?a3 ?l3 ?c3 ?k3 ?a4 ?l4 ?c4 ?k4 ?a5 ?l5 ?c5 ?k5 ?a6 ?l6 ?c6 ?k6 ?a7 ?l7 ?c7 ?k7 ?a8 ?l8 ?c8 ?k8 ?a9 ?l9 ?c9 ?k9 ?a10 ?i10 ?l10 ?t10 ?c10 ?k10 ?a11 ?i11 ?l11 ?c11 ?k11 ?a12 ?i12 ?l12 ?c12 ?k12 ?a13 ?i13 ?l13 ?c13 ?k13 ?a14 ?i14 ?l14 ?c14 ?k14 ?a15 ?l15 ?c15 ?k15 ?a16 ?l16 ?c16 ?k16 ?a17 ?l17 ?c17 ?k17 ?a18 ?l18 ?c18 ?k18 ?a19 ?l19 ?c19 ?k19 ?a20 ?l20 ?c20 ?k20 ?a21 ?l21 ?c21 ?k21 ?a22 ?l22 ?c22 ?k22 ?z_list ?z_len ?z_range ?z_int ?z_sum ?z_sorted ?z_min ?g_LETTERS ?e_LETTERS ?g_ROUND ?g_MOST_OWN
    (case h_gc_Hand => k_is); (case h_gc_Works => k_is); (case h_pg_Hand => k_is); (case h_dh_Hand => k_is); (case h_po_Hand => k_is); (case h_sa_Hand => k_is); (case h_na_Hand_rows => k_is); (case h_na_Hand_at => k_is); (case h_na_Hand_held => k_is); (case h_na_Hand_spoken => k_is); (case h_na_Hand_way => k_is); (case h_mk_Hand => k_is); (case h_kc_Hand => k_is); (case h_pg_Works => k_is); (case h_dh_Works => k_is); (case h_po_Works => k_is); (case h_sa_Works => k_is); (case h_na_Works_shared => k_is); (case h_na_Works_team => k_is); (case h_na_Works_past => k_is); (case h_mk_Works => k_is); (case h_kc_Works => k_is); (case a1 => k_is); (case i1 => k_is); (case l1 => k_is); (case c1 => k_is); (case k1 => k_is); (case a2 => k_is); (case l2 => k_is); (case c2 => k_is); (case k2 => k_is); (case a3 => k_is); (case l3 => k_is); (case c3 => k_is); (case k3 => k_is); (case a4 => k_is); (case l4 => k_is); (case c4 => k_is); (case k4 => k_is); (case a5 => k_is); (case l5 => k_is); (case c5 => k_is); (case k5 => k_is); (case a6 => k_is); (case l6 => k_is); (case c6 => k_is); (case k6 => k_is); (case a7 => k_is); (case l7 => k_is); (case c7 => k_is); (case k7 => k_is); (case a8 => k_is); (case l8 => k_is); (case c8 => k_is); (case k8 => k_is); (case a9 => k_is); (case l9 => k_is); (case c9 => k_is); (case k9 => k_is); (case a10 => k_is); (case i10 => k_is); (case l10 => k_is); (case t10 => k_is); (case c10 => k_is); (case k10 => k_is); (case a11 => k_is); (case i11 => k_is); (case l11 => k_is); (case c11 => k_is); (case k11 => k_is); (case a12 => k_is); (case i12 => k_is); (case l12 => k_is); (case c12 => k_is); (case k12 => k_is); (case a13 => k_is); (case i13 => k_is); (case l13 => k_is); (case c13 => k_is); (case k13 => k_is); (case a14 => k_is); (case i14 => k_is); (case l14 => k_is); (case c14 => k_is); (case k14 => k_is); (case a15 => k_is); (case l15 => k_is); (case c15 => k_is); (case k15 => k_is); (case a16 => k_is); (case l16 => k_is); (case c16 => k_is); (case k16 => k_is); (case a17 => k_is); (case l17 => k_is); (case c17 => k_is); (case k17 => k_is); (case a18 => k_is); (case l18 => k_is); (case c18 => k_is); (case k18 => k_is); (case a19 => k_is); (case l19 => k_is); (case c19 => k_is); (case k19 => k_is); (case a20 => k_is); (case l20 => k_is); (case c20 => k_is); (case k20 => k_is); (case a21 => k_is); (case l21 => k_is); (case c21 => k_is); (case k21 => k_is); (case a22 => k_is); (case l22 => k_is); (case c22 => k_is); (case k22 => k_is); (case z_list => k_is); (case z_len => k_is); (case z_range => k_is); (case z_int => k_is); (case z_sum => k_is); (case z_sorted => k_is); (case z_min => k_is); (case g_LETTERS => k_is); (case e_LETTERS => decide +kernel); (case g_ROUND => k_is); (case g_MOST_OWN => k_is)

