import PyProof.Rows.All
import Wide.All
import OpenK.AllK
import Wide.FinOn
import HandS.ForMost
import HandS.ForExc
import HandS.Wide
import HandS.IsInst
import HandS.Deep
import HandS.SortKw
import HandS.SortRule
import HandS.TupSets
import HandS.ExcIs
import HandS.TryMany
import HandS.StrMore
import HandS.FStr
import HandS.Strs
import HandS.SetFor
import HandS.ListItems
import HandS.SetKeys
import HandS.TupAny
import HandS.Defaults
import KE.DatumOrd
import HandS.SortInts
import HandS.Conv
import HandS.More
import KE.KDictKeyed
import HandS.Style
import HandS.Iter
import HandS.NoneIn
import OpenK.KOps
import KE.KCallOwn
import HandS.SlotsOwn
import HandS.RaiseMore
import PyProof.InstNe
import KE.DataMinKey
import KE.KDictDisplayH
import KE.DataFind
import PyProof.SeqI3
import HandS.DictTup
import HandS.TupLen
import HandS.Replace
import HandS.ExcOwn
import HandS.MakeKw
import HandS.Zip
import HandS.CallSlots
import KE.KDictSum
import KE.KDictWalk
import HandS.ExcValue
import PySem.Challenge.RW_fewnotes_k41_cuts_and_orders_counted
set_option Elab.async false
set_option linter.all false
set_option maxRecDepth 100000
set_option maxHeartbeats 4000000
namespace Z
open PySem PySem.Spec PyProof.Rows L2
/-! ### computations by what they promise -/
structure Er where
  cls : Nat
  arg : PyData := .none

structure W (α : Type) where
  go : (α → Prop) → Prop
  mono0 : ∀ (Φ Φ' : α → Prop), (∀ a, Φ a → Φ' a) → go Φ → go Φ'
/-- no projection: two runs are compared by their parts first -/
def W.run {α : Type} (c : W α) (Φ : α → Prop) : Prop := c.go Φ
theorem W.mono {α : Type} (c : W α) (Φ Φ' : α → Prop) (h : ∀ a, Φ a → Φ' a) (q : c.run Φ) : c.run Φ' := c.mono0 Φ Φ' h q

namespace W
variable {α β γ : Type}
def ret (a : α) : W α := ⟨fun Φ => Φ a, fun _ _ h q => h a q⟩
def bind (c : W α) (f : α → W β) : W β := ⟨fun Φ => c.run (fun a => (f a).run Φ), fun Φ Φ' h q => c.mono _ _ (fun a z => (f a).mono _ _ h z) q⟩
def guard (p : Prop) (c : W α) : W α := ⟨fun Φ => p ∧ c.run Φ, fun _ _ h q => ⟨q.1, c.mono _ _ h q.2⟩⟩
def ite (b : Bool) (x y : W α) : W α := ⟨fun Φ => (b = true → x.run Φ) ∧ (b = false → y.run Φ), fun _ _ h q => ⟨fun e => x.mono _ _ h (q.1 e), fun e => y.mono _ _ h (q.2 e)⟩⟩
def opt (o : Option α) : W α := ⟨fun Φ => ∃ a, o = some a ∧ Φ a, fun _ _ h ⟨a, e, q⟩ => ⟨a, e, h a q⟩⟩
def bad : W α := ⟨fun _ => False, fun _ _ _ q => q⟩
end W

/-- an answer, or an error -/
inductive Ex (α : Type) where
  | ok (a : α) | er (e : Er)
/-- how a loop's turn ends -/
inductive Ctl (ρ S : Type) where
  | nx (s : S) | bk (s : S) | rt (r : ρ)

def CtlP {ρ S : Type} (N B : S → Prop) (Φ : ρ → Prop) : Ctl ρ S → Prop
  | .nx s => N s
  | .bk s => B s
  | .rt r => Φ r
theorem ctl_nx {ρ S : Type} {N B : S → Prop} {Φ : ρ → Prop} {s : S} (h : CtlP N B Φ (.nx s)) : N s := h
theorem ctl_bk {ρ S : Type} {N B : S → Prop} {Φ : ρ → Prop} {s : S} (h : CtlP N B Φ (.bk s)) : B s := h
theorem ctl_rt {ρ S : Type} {N B : S → Prop} {Φ : ρ → Prop} {r : ρ} (h : CtlP N B Φ (.rt r)) : Φ r := h
namespace W
variable {α β γ ρ S : Type}
def forL : List α → S → (α → S → W S) → W S
  | [], s, _ => ret s
  | x :: xs, s, f => bind (f x s) fun s' => forL xs s' f
/-- a loop that may be left -/
def forC : List α → S → (α → S → W (Ctl ρ S)) → W (Ctl ρ S)
  | [], s, _ => ret (.nx s)
  | x :: xs, s, f => bind (f x s) fun c => match c with
    | .nx s' => forC xs s' f
    | .bk s' => ret (.nx s')
    | .rt r => ret (.rt r)
def bind2 {α β γ : Type} (c : W (α × β)) (f : α → β → W γ) : W γ := ⟨fun Φ => c.run fun r => (f r.1 r.2).run Φ, fun Φ Φ' h q => c.mono _ _ (fun a z => (f a.1 a.2).mono _ _ h z) q⟩
def bindX {α β : Type} (c : W (Ex α)) (f : α → W (Ex β)) : W (Ex β) := bind c fun r => match r with
  | .ok a => f a
  | .er e => ret (.er e)
def after (c : Ctl ρ S) (k : S → W ρ) : W ρ := match c with
  | .nx s => k s
  | .bk s => k s
  | .rt r => ret r
/-- a while loop: a turn tells whether it is left (bk) -/
def whileN : Nat → S → (S → W (Ctl ρ S)) → W (Ctl ρ S)
  | 0, _, _ => bad
  | n + 1, s, f => bind (f s) fun c => match c with
    | .nx s' => whileN n s' f
    | .bk s' => ret (.nx s')
    | .rt r => ret (.rt r)
def whileL (s : S) (f : S → W (Ctl ρ S)) : W (Ctl ρ S) := ⟨fun Φ => ∃ n, (whileN n s f).run Φ, fun _ _ h ⟨n, q⟩ => ⟨n, (whileN n s f).mono _ _ h q⟩⟩
end W
/-! ### data -/
class Py (α : Type) where
  toPy : α → PyData
abbrev toPy {α : Type} [Py α] (a : α) : PyData := Py.toPy a
structure P3 (α β γ : Type) where
  a : α
  b : β
  c : γ
  deriving DecidableEq
structure P4 (α β γ δ : Type) where
  a : α
  b : β
  c : γ
  d : δ
  deriving DecidableEq
structure P5 (α β γ δ ε : Type) where
  a : α
  b : β
  c : γ
  d : δ
  e : ε
  deriving DecidableEq
/-- a tuple of things of one kind -/
structure Tp (α : Type) where
  l : List α
  deriving DecidableEq
instance : Py Int := ⟨.int⟩
instance : Py Bool := ⟨.bool⟩
instance : Py Str := ⟨.str⟩
instance : Py Unit := ⟨fun _ => .none⟩
instance : Py PyData := ⟨id⟩
instance {α : Type} [Py α] : Py (Option α) := ⟨fun o => match o with | none => .none | some a => toPy a⟩
instance {α : Type} [Py α] : Py (List α) := ⟨fun xs => .list (xs.map Py.toPy)⟩
instance {α : Type} [Py α] : Py (Tp α) := ⟨fun xs => .tuple (xs.l.map Py.toPy)⟩
instance {α β : Type} [Py α] [Py β] : Py (α × β) := ⟨fun p => .tuple [toPy p.1, toPy p.2]⟩
instance {α β γ : Type} [Py α] [Py β] [Py γ] : Py (P3 α β γ) := ⟨fun p => .tuple [toPy p.a, toPy p.b, toPy p.c]⟩
instance {α β γ δ : Type} [Py α] [Py β] [Py γ] [Py δ] : Py (P4 α β γ δ) := ⟨fun p => .tuple [toPy p.a, toPy p.b, toPy p.c, toPy p.d]⟩
instance {α β γ δ ε : Type} [Py α] [Py β] [Py γ] [Py δ] [Py ε] : Py (P5 α β γ δ ε) := ⟨fun p => .tuple [toPy p.a, toPy p.b, toPy p.c, toPy p.d, toPy p.e]⟩
/-! a value is data; each tuple is tracked -/
mutual
inductive Dq (K : PySem.W.Frag) (H : Hp) : V → PyData → Prop
  | non : Dq K H .non .none
  | bl (b : Bool) : Dq K H (.bl b) (.bool b)
  | int (i : Int) : Dq K H (.int i) (.int i)
  | str (x : Str) : Dq K H (.str x) (.str x)
  | lst {a : Addr} {vs : List V} {ds : List PyData} (hs : SqL K H a vs) (hd : DqAll K H vs ds) : Dq K H (.ref a) (.list ds)
  | tup {a : Addr} {vs : List V} {ds : List PyData} (hs : H a = some (.tup vs)) (hd : DqAll K H vs ds) : Dq K H (.ref a) (.tuple ds)
  /-- an instance of a class of the text that stands for good -/
  | ins {a dx C : Addr} {cn : Str} {ns : List Str} {vs : List V} {ds : List PyData} (hC : PySem.W.nsIn K mainGlobals cn = some (some (.ref C))) (hs : H a = some (.ins C dx (ns.zip vs))) (hd : DqAll K H vs ds) : Dq K H (.ref a) (.dict [(.str cn, .list (ns.map .str)), (.none, .tuple ds)])
inductive DqAll (K : PySem.W.Frag) (H : Hp) : List V → List PyData → Prop
  | nil : DqAll K H [] []
  | cons {v : V} {vs : List V} {d : PyData} {ds : List PyData} (h : Dq K H v d) (hs : DqAll K H vs ds) : DqAll K H (v :: vs) (d :: ds)
end
section
variable {K : PySem.W.Frag} {H H' : Hp}
theorem Same.sqT {a : Addr} {xs : List V} (e : Same H H') (h : SqT K H a xs) : SqT K H' a xs := by
  rcases h with (h | ⟨o, h⟩) | h
  · exact .inl (.inl (e _ _ h))
  · exact .inl (.inr ⟨o, e _ _ h⟩)
  · exact .inr h
mutual
theorem dp_mono (e : Same H H') : ∀ (d : PyData) (v : V), Dq K H v d → Dq K H' v d
  | _, _, .non => .non
  | _, _, .bl b => .bl b
  | _, _, .int i => .int i
  | _, _, .str x => .str x
  | _, _, .lst hs ha => .lst (e.seq hs) (dpAll_mono e _ _ ha)
  | _, _, .tup hs ha => .tup (e _ _ hs) (dpAll_mono e _ _ ha)
  | _, _, .ins hC hs ha => .ins hC (e _ _ hs) (dpAll_mono e _ _ ha)
theorem dpAll_mono (e : Same H H') : ∀ (ds : List PyData) (vs : List V), DqAll K H vs ds → DqAll K H' vs ds
  | _, _, .nil => .nil
  | _, _, .cons h1 h2 => .cons (dp_mono e _ _ h1) (dpAll_mono e _ _ h2)
end
mutual
theorem Dq.dp : ∀ (d : PyData) (v : V), d.canLay0 = true → Dq K H v d → Dp K H v d
  | _, _, _, .non => .non
  | _, _, _, .bl b => .bl b
  | _, _, _, .int i => .int i
  | _, _, _, .str x => .str x
  | _, _, g, .lst hs ha => .lst hs (DqAll.dp _ _ (by simpa [PyData.canLay0] using g) ha)
  | _, _, g, .tup hs ha => .tup (SqT.of hs) (DqAll.dp _ _ (by simpa [PyData.canLay0] using g) ha)
  | _, _, g, .ins _ _ _ => by simp [PyData.canLay0] at g
theorem DqAll.dp : ∀ (ds : List PyData) (vs : List V), PyData.canLayAll0 ds = true → DqAll K H vs ds → DpAll K H vs ds
  | _, _, _, .nil => .nil
  | d :: ds, _, g, .cons h1 h2 => by
    have g' : PyData.canLay0 d = true ∧ PyData.canLayAll0 ds = true := by simpa [PyData.canLayAll0] using g
    exact .cons (Dq.dp _ _ g'.1 h1) (DqAll.dp _ _ g'.2 h2)
end
theorem shp {d : PyData} (h : SeqAt.shaped d = true) : d.canLay0 = true := by
  unfold SeqAt.shaped at h
  exact (Bool.and_eq_true _ _ ▸ h).1
end
section
variable {K : PySem.W.Frag} {H H' : Hp} {α : Type} [Py α]
abbrev D (K : PySem.W.Frag) (H : Hp) (v : V) (x : α) : Prop := Dq K H v (toPy x)
abbrev DL (K : PySem.W.Frag) (H : Hp) (vs : List V) (xs : List α) : Prop := DqAll K H vs (xs.map Py.toPy)
theorem D.mo {v : V} {x : α} (h : D K H v x) (e : Same H H') : D K H' v x := dp_mono e _ _ h
theorem DL.mo {vs : List V} {xs : List α} (h : DL K H vs xs) (e : Same H H') : DL K H' vs xs := dpAll_mono e _ _ h
theorem d_int {v : V} {i : Int} (h : D K H v i) : v = .int i := by cases h; rfl
theorem d_bool {v : V} {i : Bool} (h : D K H v i) : v = .bl i := by cases h; rfl
theorem d_str {v : V} {i : Str} (h : D K H v i) : v = .str i := by cases h; rfl
theorem dpAll_len {vs : List V} : ∀ {ds : List PyData}, DqAll K H vs ds → vs.length = ds.length := by
  induction vs with
  | nil => intro ds h; cases h; rfl
  | cons v vs ih => intro ds h; cases h with | cons h1 h2 => simp [ih h2]
theorem DL.len {vs : List V} {xs : List α} (h : DL K H vs xs) : vs.length = xs.length := by
  have := dpAll_len h
  simpa using this
theorem dpAll_get {vs : List V} : ∀ {ds : List PyData} {i : Nat} {d : PyData}, DqAll K H vs ds → ds[i]? = some d → ∃ v, vs[i]? = some v ∧ Dq K H v d := by
  induction vs with
  | nil => intro ds i d h e; cases h; simp at e
  | cons v vs ih =>
    intro ds i d h e
    cases h with
    | cons h1 h2 =>
      cases i with
      | zero => simp at e; subst e; exact ⟨v, rfl, h1⟩
      | succ i => simpa using ih h2 (by simpa using e)
theorem DL.get {vs : List V} {xs : List α} {i : Nat} {x : α} (h : DL K H vs xs) (e : xs[i]? = some x) : ∃ v, vs[i]? = some v ∧ D K H v x :=
  dpAll_get h (by simp [e])
theorem DL.at {vs : List V} {xs : List α} {i : Int} {x : α} (h : DL K H vs xs) (e : atI xs i = some x) : ∃ v, atI vs i = some v ∧ D K H v x := by
  unfold atI at e ⊢
  rw [h.len]
  cases q : ixN xs.length i with
  | none => rw [q] at e; cases e
  | some j =>
    rw [q] at e
    exact h.get e
theorem dpAll_append {vs ws : List V} {ds es : List PyData} (h : DqAll K H vs ds) (h' : DqAll K H ws es) : DqAll K H (vs ++ ws) (ds ++ es) := by
  induction vs generalizing ds with
  | nil => cases h; exact h'
  | cons v vs ih => cases h with | cons h1 h2 => exact .cons h1 (ih h2)
theorem DL.append {vs ws : List V} {xs ys : List α} (h : DL K H vs xs) (h' : DL K H ws ys) : DL K H (vs ++ ws) (xs ++ ys) := by
  unfold DL; rw [List.map_append]; exact dpAll_append h h'
theorem DL.push {vs : List V} {xs : List α} {v : V} {x : α} (h : DL K H vs xs) (h' : D K H v x) : DL K H (vs ++ [v]) (xs ++ [x]) :=
  h.append (.cons h' .nil)
theorem dpAll_set {vs : List V} {ds : List PyData} {v : V} {d : PyData} (h : DqAll K H vs ds) (h' : Dq K H v d) (j : Nat) : DqAll K H (vs.set j v) (ds.set j d) := by
  induction vs generalizing ds j with
  | nil => cases h; exact .nil
  | cons u vs ih =>
    cases h with
    | cons h1 h2 =>
      cases j with
      | zero => exact .cons h' h2
      | succ j => exact .cons h1 (ih h2 j)
theorem DL.set {vs : List V} {xs : List α} {v : V} {x : α} (h : DL K H vs xs) (h' : D K H v x) (j : Nat) : DL K H (vs.set j v) (xs.set j x) := by
  unfold DL; rw [List.map_set]; exact dpAll_set h h' j
theorem dpAll_take {vs : List V} {ds : List PyData} (h : DqAll K H vs ds) (n : Nat) : DqAll K H (vs.take n) (ds.take n) := by
  induction n generalizing vs ds with
  | zero => exact .nil
  | succ n ih => cases h with | nil => exact .nil | cons h1 h2 => exact .cons h1 (ih h2)
theorem dpAll_drop {vs : List V} {ds : List PyData} (h : DqAll K H vs ds) (n : Nat) : DqAll K H (vs.drop n) (ds.drop n) := by
  induction n generalizing vs ds with
  | zero => exact h
  | succ n ih => cases h with | nil => exact .nil | cons h1 h2 => exact ih h2
def cut {α : Type} (xs : List α) (lo hi : Option Int) : List α := (xs.drop (HT.sIx xs.length 0 lo)).take (HT.sIx xs.length xs.length hi - HT.sIx xs.length 0 lo)
theorem DL.cut {vs : List V} {xs : List α} (h : DL K H vs xs) (lo hi : Option Int) : DL K H (cutV vs lo hi) (Z.cut xs lo hi) := by
  unfold DL cutV Z.cut
  rw [List.map_take, List.map_drop, h.len]
  exact dpAll_take (dpAll_drop h _) _
theorem dl_ints {vs : List V} : ∀ {xs : List Int}, DL K H vs xs → vs = xs.map V.int := by
  induction vs with
  | nil => intro xs h; cases xs with | nil => rfl | cons x xs => cases h
  | cons v vs ih =>
    intro xs h
    cases xs with
    | nil => cases h
    | cons x xs => cases h with | cons h1 h2 => rw [ih h2, d_int h1]; rfl
theorem dl_bools {vs : List V} : ∀ {xs : List Bool}, DL K H vs xs → vs = xs.map V.bl := by
  induction vs with
  | nil => intro xs h; cases xs with | nil => rfl | cons x xs => cases h
  | cons v vs ih =>
    intro xs h
    cases xs with
    | nil => cases h
    | cons x xs => cases h with | cons h1 h2 => rw [ih h2, d_bool h1]; rfl
theorem ints_dl : ∀ {xs : List Int}, DL K H (xs.map V.int) xs
  | [] => .nil
  | x :: xs => .cons (.int x) ints_dl
end

/-! ### the state: what stands for good (Ho), what may be written (rs) -/
/-- no tuple: tuples never change, so that none is written -/
def NotTup : HO → Prop
  | .tup _ => False
  | _ => True
structure Zs (rs : List (Addr × HO)) (H Ho : Hp) : Prop where
  le : Same Ho H
  rt : ∀ r ∈ rs, H r.1 = some r.2 ∧ Ho r.1 = none
  nd : (rs.map (·.1)).Nodup
  nt : ∀ r ∈ rs, NotTup r.2

section
variable {K : PySem.W.Frag} {H Ho H' Ho' : Hp} {rs : List (Addr × HO)} {p q : Addr} {o o' : HO}
theorem Zs.free (z : Zs rs H Ho) (h : H q = none) : Ho q = none := z.le.free h
theorem Zs.nin (z : Zs rs H Ho) (h : H q = none) : ∀ r ∈ rs, r.1 ≠ q := fun r hr e => by
  have := (z.rt r hr).1
  rw [e, h] at this
  cases this
/-- a new object that stays -/
theorem Zs.alloc (z : Zs rs H Ho) (h : H q = none) : Zs rs (upd H q o) (upd Ho q o) :=
  ⟨fun b x e => by
    by_cases hb : b = q
    · subst hb; rw [upd_same] at e ⊢; exact e
    · rw [upd_ne hb] at e ⊢; exact z.le b x e,
   fun r hr => by
    have ne := z.nin h r hr
    rw [upd_ne ne, upd_ne ne]; exact z.rt r hr, z.nd, z.nt⟩
theorem Same.new (h : Ho q = none) : Same Ho (upd Ho q o) := fun b x e => by
  rw [upd_ne (ne_of_none e h)]; exact e
/-- a new object that may be written -/
theorem Zs.root (z : Zs rs H Ho) (h : H q = none) (hn : NotTup o := by exact trivial) : Zs ((q, o) :: rs) (upd H q o) Ho :=
  ⟨fun b x e => by
    rw [upd_ne (ne_of_none (z.le b x e) h)]; exact z.le b x e,
   fun r hr => by
    rcases List.mem_cons.mp hr with e | hr
    · subst e; exact ⟨upd_same, z.free h⟩
    · rw [upd_ne (z.nin h r hr)]; exact z.rt r hr,
   List.nodup_cons.mpr ⟨fun hm => by
    obtain ⟨r, hr, e⟩ := List.mem_map.mp hm
    exact z.nin h r hr e, z.nd⟩, fun r hr => by
    rcases List.mem_cons.mp hr with e | hr
    · subst e; exact hn
    · exact z.nt r hr⟩
theorem Zs.put (z : Zs ((p, o) :: rs) H Ho) (hn : NotTup o' := by exact trivial) : Zs ((p, o') :: rs) (upd H p o') Ho :=
  ⟨fun b x e => by
    have np : b ≠ p := fun e' => by subst e'; rw [(z.rt _ List.mem_cons_self).2] at e; cases e
    rw [upd_ne np]; exact z.le b x e,
   fun r hr => by
    rcases List.mem_cons.mp hr with e | hr
    · subst e; exact ⟨upd_same, (z.rt _ List.mem_cons_self).2⟩
    · have np : r.1 ≠ p := fun e' => by
        have := (List.nodup_cons.mp z.nd).1
        exact this (List.mem_map.mpr ⟨r, hr, e'⟩)
      rw [upd_ne np]; exact z.rt r (List.mem_cons_of_mem _ hr), z.nd, fun r hr => by
    rcases List.mem_cons.mp hr with e | hr
    · subst e; exact hn
    · exact z.nt r (List.mem_cons_of_mem _ hr)⟩
theorem Zs.tail (z : Zs ((p, o) :: rs) H Ho) : Zs rs H Ho :=
  ⟨z.le, fun r hr => z.rt r (List.mem_cons_of_mem _ hr), (List.nodup_cons.mp z.nd).2, fun r hr => z.nt r (List.mem_cons_of_mem _ hr)⟩
theorem Zs.head (z : Zs ((p, o) :: rs) H Ho) : H p = some o := (z.rt _ List.mem_cons_self).1
theorem Zs.headN (z : Zs ((p, o) :: rs) H Ho) : Ho p = none := (z.rt _ List.mem_cons_self).2
/-- what may be written stands for good from now on -/
theorem Zs.freeze (z : Zs ((p, o) :: rs) H Ho) : Zs rs H (upd Ho p o) :=
  ⟨fun b x e => by
    by_cases hb : b = p
    · subst hb; rw [upd_same] at e; rw [← e]; exact z.head
    · rw [upd_ne hb] at e; exact z.le b x e,
   fun r hr => by
    have np : r.1 ≠ p := fun e' => (List.nodup_cons.mp z.nd).1 (List.mem_map.mpr ⟨r, hr, e'⟩)
    rw [upd_ne np]; exact z.rt r (List.mem_cons_of_mem _ hr), (List.nodup_cons.mp z.nd).2, fun r hr => z.nt r (List.mem_cons_of_mem _ hr)⟩
theorem Zs.perm {rs' : List (Addr × HO)} (z : Zs rs H Ho) (h : rs.Perm rs') : Zs rs' H Ho :=
  ⟨z.le, fun r hr => z.rt r (h.mem_iff.mpr hr), (h.map _).nodup_iff.mp z.nd, fun r hr => z.nt r (h.mem_iff.mpr hr)⟩
theorem perm1 {α : Type} {a b : α} {l : List α} : (a :: b :: l).Perm (b :: a :: l) := List.Perm.swap b a l
theorem perm2 {α : Type} {a b c : α} {l : List α} : (a :: b :: c :: l).Perm (c :: a :: b :: l) :=
  (List.Perm.cons a (List.Perm.swap c b l)).trans (List.Perm.swap c a (b :: l))
theorem perm2' {α : Type} {a b c : α} {l : List α} : (c :: a :: b :: l).Perm (a :: b :: c :: l) := perm2.symm
theorem perm3 {α : Type} {a b c d : α} {l : List α} : (a :: b :: c :: d :: l).Perm (d :: a :: b :: c :: l) :=
  (List.Perm.cons a perm2).trans (List.Perm.swap d a (b :: c :: l))
theorem perm3' {α : Type} {a b c d : α} {l : List α} : (d :: a :: b :: c :: l).Perm (a :: b :: c :: d :: l) := perm3.symm
theorem Zs.sw1 {a b : Addr × HO} (z : Zs (a :: b :: rs) H Ho) : Zs (b :: a :: rs) H Ho := z.perm perm1
theorem Zs.sw2 {a b c : Addr × HO} (z : Zs (a :: b :: c :: rs) H Ho) : Zs (c :: a :: b :: rs) H Ho := z.perm perm2
theorem Zs.sw2' {a b c : Addr × HO} (z : Zs (c :: a :: b :: rs) H Ho) : Zs (a :: b :: c :: rs) H Ho := z.perm perm2'
theorem Zs.sw3 {a b c d : Addr × HO} (z : Zs (a :: b :: c :: d :: rs) H Ho) : Zs (d :: a :: b :: c :: rs) H Ho := z.perm perm3
theorem Zs.sw3' {a b c d : Addr × HO} (z : Zs (d :: a :: b :: c :: rs) H Ho) : Zs (a :: b :: c :: d :: rs) H Ho := z.perm perm3'
end

/-- a list that is read -/
def LV {α : Type} [Py α] (K : PySem.W.Frag) (rs : List (Addr × HO)) (Ho : Hp) (v : V) (xs : List α) : Prop :=
  ∃ p vs, v = .ref p ∧ DL K Ho vs xs ∧ (SqL K Ho p vs ∨ (p, HO.lst vs) ∈ rs)
section
variable {K : PySem.W.Frag} {H Ho H' Ho' : Hp} {rs rs' : List (Addr × HO)} {α : Type} [Py α] {v : V} {xs : List α}
theorem LV.mo (h : LV K rs Ho v xs) (e : Same Ho Ho') : LV K rs Ho' v xs := by
  obtain ⟨p, vs, rfl, d, s⟩ := h
  exact ⟨p, vs, rfl, DL.mo d e, s.imp (fun s => e.seq s) id⟩
theorem LV.sub (h : LV K rs Ho v xs) (e : ∀ r ∈ rs, r ∈ rs') : LV K rs' Ho v xs := by
  obtain ⟨p, vs, rfl, d, s⟩ := h
  exact ⟨p, vs, rfl, d, s.imp id (e _)⟩
theorem LV.cons {r : Addr × HO} (h : LV K rs Ho v xs) : LV K (r :: rs) Ho v xs := h.sub fun _ m => List.mem_cons_of_mem _ m
theorem LV.of (h : D K Ho v xs) : LV K rs Ho v xs := by
  cases h with
  | lst hs ha => exact ⟨_, _, rfl, ha, .inl hs⟩
theorem LV.rd (h : LV K rs Ho v xs) (z : Zs rs H Ho) : ∃ p vs, v = .ref p ∧ DL K Ho vs xs ∧ SqL K H p vs := by
  obtain ⟨p, vs, rfl, d, s⟩ := h
  refine ⟨p, vs, rfl, d, ?_⟩
  rcases s with s | s
  · exact z.le.seq s
  · exact SqL.of (z.rt _ s).1
theorem LV.dp (h : LV K rs Ho v xs) (z : Zs rs H Ho) : D K H v xs := by
  obtain ⟨p, vs, rfl, d, s⟩ := h.rd z
  exact .lst s (DL.mo d z.le)
theorem lv_root {p : Addr} {vs : List V} (d : DL K Ho vs xs) (m : (p, HO.lst vs) ∈ rs) : LV K rs Ho (.ref p) xs := ⟨p, vs, rfl, d, .inr m⟩
end


/-! ### more rules of the machine -/
section
variable {X : Cx}
def rCatS (K : PySem.W.Frag) : R2 := fun x y H Q => ∃ l b xs zs, x = .ref l ∧ y = .ref b ∧ SqL K H l xs ∧ SqL K H b zs ∧ xs.length + zs.length ≤ sizeLine ∧ ∀ p, H p = none → Q (.ref p) (upd H p (.lst (xs ++ zs)))
theorem op_catS : OpR X (binaryOp .Add) (rCatS X.K) := by
  intro pins s σ H x y v u Q I rx ry h
  obtain ⟨l, b, xs, zs, rfl, rfl, hH, hB, hz, q⟩ := h
  cases rx
  cases ry
  obtain ⟨its, r, pl, _⟩ := I.list hH
  obtain ⟨its2, r2, pl2, _⟩ := I.list hB
  have hl := r.length
  have hl2 := r2.length
  obtain ⟨⟨cls, dd, data, sl⟩, ho, hc, n, hd⟩ := pl.isList
  obtain ⟨⟨cls2, dd2, data2, sl2⟩, ho2, hc2, n2, hd2⟩ := pl2.isList
  simp only at hc hd hc2 hd2
  subst hc hd hc2 hd2
  have ea : its.toArray ++ its2.toArray = (its ++ its2).toArray := by simp
  refine concat_meets ⟨_, ho, rfl⟩ ⟨_, ho2, rfl⟩ noFill_list_add seq_list_add PySem.F.slot_list_add PySem.F.entry_list_add (PySem.F.args_list_add_2 _ _) (list_addW l b its.toArray its2.toArray n n2 dd dd2 sl sl2 (by simp only [List.size_toArray]; omega)) ⟨ho, ho2, ?_⟩
  rw [ea]
  exact ⟨.ref _, _, I.lnew (t' := s.toks) (r.append r2) (by rw [List.length_append]; omega), rfl, q _ I.fresh⟩
/-- xs[i] as the old value of xs[i] op= e -/
theorem get_list : PGet X (rIxL X.K) := by
  intro pins s σ H o i ov iv Q I ro ri h
  obtain ⟨p, xs, i, z, rfl, rfl, hq, he, q⟩ := h
  cases ro
  obtain ⟨t, rfl⟩ := ri
  obtain ⟨its, r, pl, hz⟩ := I.list hq
  obtain ⟨j, h1, h2, h3, h4, h5⟩ := atI_get he
  obtain ⟨w, ew, rw'⟩ := r.get h2
  have hl := r.length
  have hn := line63
  have fin : EP X pins σ Q w s := ⟨z, H, I, rw', q⟩
  by_cases h0 : 0 ≤ i
  · have hj : i.toNat = j := by
      rw [seqIndex_of h0 h5] at h1
      exact Option.some.inj h1
    exact wpAny_getItem_list pl.isList h0 (by omega) (by rw [hj]; simpa using ew) fin
  · have hj : (i + (its.toArray.size : Int)).toNat = j := by
      rw [seqIndex_neg (by omega) h4] at h1
      rw [List.size_toArray, ← hl]
      exact Option.some.inj h1
    exact wpAny_getItem_list_neg pl.isList (by omega) (by rw [List.size_toArray] <;> omega) (by omega) (by rw [hj]; simpa using ew) fin
end
end Z

/-! # Y1: readings step by step -/
namespace Z
open PySem PySem.Spec PyProof.Rows L2

/-! ### roots -/
theorem Zs.putI {rs : List (Addr × HO)} {H Ho : Hp} {n : Nat} {p : Addr} {o o' : HO} (z : Zs rs H Ho) (h : rs[n]? = some (p, o)) (hn : NotTup o' := by exact trivial) : Zs (rs.set n (p, o')) (upd H p o') Ho := by
  have hp := z.rt (p, o) (List.mem_of_getElem? h)
  have idx : ∀ m r, rs[m]? = some r → r.1 = p → m = n := fun m r hm e => by
    have h1 : (rs.map (·.1))[m]? = some p := by rw [List.getElem?_map, hm]; exact congrArg some e
    have h2 : (rs.map (·.1))[n]? = some p := by rw [List.getElem?_map, h]; rfl
    exact nd_ix z.nd h1 h2
  refine ⟨fun b x e => ?_, fun r hr => ?_, ?_, fun r hr => ?_⟩
  · have np : b ≠ p := fun e' => by subst e'; rw [hp.2] at e; cases e
    rw [upd_ne np]; exact z.le b x e
  · obtain ⟨m, hm⟩ := List.mem_iff_getElem?.mp hr
    rw [List.getElem?_set] at hm
    by_cases c : n = m
    · rw [if_pos c] at hm
      split at hm
      · cases hm; exact ⟨upd_same, hp.2⟩
      · cases hm
    · rw [if_neg c] at hm
      have np : r.1 ≠ p := fun e => c (idx m r hm e).symm
      rw [upd_ne np]; exact z.rt r (List.mem_of_getElem? hm)
  · have e : (rs.set n (p, o')).map (·.1) = rs.map (·.1) := by
      rw [List.map_set]
      apply List.ext_getElem?
      intro m
      rw [List.getElem?_set]
      split
      · rename_i c
        subst c
        rw [List.getElem?_map, h]
        have hl : n < (rs.map (·.1)).length := by rw [List.length_map]; exact (List.getElem?_eq_some_iff.mp h).1
        rw [if_pos hl]; rfl
      · rfl
    rw [e]; exact z.nd
  · rcases List.mem_or_eq_of_mem_set hr with q | q
    · exact z.nt r q
    · subst q; exact hn
theorem Zs.sub {rs rs' : List (Addr × HO)} {H Ho : Hp} (z : Zs rs H Ho) (h : rs'.Sublist rs) : Zs rs' H Ho :=
  ⟨z.le, fun r hr => z.rt r (h.subset hr), (h.map _).nodup z.nd, fun r hr => z.nt r (h.subset hr)⟩
/-- some of the roots, in any order -/
theorem Zs.re {rs rs' : List (Addr × HO)} {H Ho : Hp} (l amb : List (Addr × HO)) (is : List Nat) (z : Zs rs H Ho) (h1 : rs = l ++ amb := by rfl) (h2 : rs' = (is.filterMap fun i => l[i]?) ++ amb := by rfl) (hn : is.Nodup := by decide) : Zs rs' H Ho := by
  subst h1 h2
  have sub : ∀ r ∈ (is.filterMap fun i => l[i]?), r ∈ l := fun r hr => by
    obtain ⟨i, _, e⟩ := List.mem_filterMap.mp hr
    exact List.mem_of_getElem? e
  have sub2 : ∀ r ∈ (is.filterMap fun i => l[i]?) ++ amb, r ∈ l ++ amb := fun r hr => by
    rcases List.mem_append.mp hr with h | h
    · exact List.mem_append.mpr (.inl (sub r h))
    · exact List.mem_append.mpr (.inr h)
  refine ⟨z.le, fun r hr => z.rt r (sub2 r hr), ?_, fun r hr => z.nt r (sub2 r hr)⟩
  · have nd := z.nd
    rw [List.map_append, List.nodup_append] at nd ⊢
    refine ⟨?_, nd.2.1, fun a ha b hb => ?_⟩
    · rw [List.map_filterMap]
      refine List.Pairwise.filterMap _ (fun i j hij a ha b hb e => ?_) hn
      subst e
      simp only [Option.map_eq_some_iff] at ha hb
      obtain ⟨r, e1, e2⟩ := ha
      obtain ⟨q, e3, e4⟩ := hb
      refine hij (nd_ix nd.1 (show (l.map (·.1))[i]? = some a from ?_) (show (l.map (·.1))[j]? = some a from ?_))
      · rw [List.getElem?_map, e1]; exact congrArg some e2
      · rw [List.getElem?_map, e3]; exact congrArg some e4
    · obtain ⟨r, hr, rfl⟩ := List.mem_map.mp ha
      exact nd.2.2 _ (List.mem_map.mpr ⟨r, sub r hr, rfl⟩) b hb
theorem rt_mem {rs : List (Addr × HO)} {n : Nat} {a : Addr × HO} (h : rs[n]? = some a) : a ∈ rs := List.mem_of_getElem? h
def subN {rs : List (Addr × HO)} (n : Nat) {xs : List (Addr × HO)} (h : xs.drop n = rs) : ∀ r ∈ rs, r ∈ xs := fun r m => List.mem_of_mem_drop (i := n) (h ▸ m)

section
variable {K : PySem.W.Frag} {rs r0 : List (Addr × HO)} {σ : L2.St} {H Ho : Hp} {ta tb tc te : TE} {tt tu : TT} {ts : TA} {Q : VK} {QB : Bool → Hp → Prop} {u t1 t2 : TS} {D : Ends} {v w : V} {i : Nat} {α β γ : Type} [Py α] [Py β] {Φ : γ → Prop} {p : Addr}
theorem frz {ws : List V} {xs : List α} (z : Zs ((p, .lst ws) :: rs) H Ho) (d : DL K Ho ws xs) : ∃ Ho', Same Ho Ho' ∧ Zs rs H Ho' ∧ Z.D K Ho' (.ref p) xs := by
  have e : Same Ho (upd Ho p (.lst ws)) := Same.new z.headN
  exact ⟨_, e, z.freeze, .lst (SqL.of upd_same) (DL.mo d e)⟩
/-- a new list that stands for good at once -/
theorem frzK {Q' : Addr → Hp → Prop} {H' : Hp} {xs : List α} (k : ∀ p Ho', Same Ho Ho' → Zs rs H' Ho' → Z.D K Ho' (.ref p) xs → Q' p H') : ∀ p ws, Zs ((p, .lst ws) :: rs) H' Ho → DL K Ho ws xs → Q' p H' := fun p ws z d => by
  obtain ⟨Ho', e, z', d'⟩ := frz z d
  exact k p Ho' e z' d'
/-! ### expressions -/
theorem y_var (h : σ[i]? = some (some v)) (k : Q v H) : tVar i σ H Q := ⟨v, h, k⟩
theorem y_c (k : Q v H) : tC v σ H Q := k
theorem y_op {r : R2} (k : ta σ H fun x H1 => tb σ H1 fun y H2 => r x y H2 Q) : tOp r ta tb σ H Q := k
theorem y_un {r : V → Hp → VK → Prop} (k : ta σ H fun x H1 => r x H1 Q) : tUn r ta σ H Q := k
theorem y_test (k : te σ H fun x H1 => ∃ c, x = .bl c ∧ QB c H1) : tTest te σ H QB := k
theorem y_tB (k : te σ H fun x H1 => ∃ c, x = .bl c ∧ QB c H1) : tB te σ H QB := k
theorem y_bl {b : Bool} (k : QB b H) : ∃ c, V.bl b = .bl c ∧ QB c H := ⟨b, rfl, k⟩
theorem y_not (k : tt σ H fun c H1 => QB (!c) H1) : tNot tt σ H QB := k
theorem y_notV (k : te σ H fun x H1 => ∃ c, x = .bl c ∧ Q (.bl (!c)) H1) : tNotV te σ H Q := k
theorem y_andV (k : ta σ H fun x H1 => ∃ c, x = .bl c ∧ if c = true then tb σ H1 Q else Q (.bl false) H1) : tAndV ta tb σ H Q := k
theorem y_orV (k : ta σ H fun x H1 => ∃ c, x = .bl c ∧ if c = true then Q (.bl true) H1 else tb σ H1 Q) : tOrV ta tb σ H Q := k
theorem y_and (k : tt σ H fun c H1 => if c = true then tu σ H1 QB else QB false H1) : tAnd tt tu σ H QB := k
theorem y_or (k : tt σ H fun c H1 => if c = true then QB true H1 else tu σ H1 QB) : tOr tt tu σ H QB := k
theorem y_if (k : tt σ H fun c H1 => if c = true then ta σ H1 Q else tb σ H1 Q) : tIf tt ta tb σ H Q := k
theorem y_chain {r r' : R2} (k : ta σ H fun x H1 => tb σ H1 fun y H2 => r x y H2 fun z H3 => ∃ c, z = .bl c ∧ (if c = true then tc σ H3 fun w' H4 => r' y w' H4 Q else Q (.bl false) H3)) : tChain r r' ta tb tc σ H Q := k
theorem y_cb {r : List V → Hp → VK → Prop} (k : ts σ H fun vs H1 => r vs H1 Q) : tCB r ts σ H Q := k
theorem y_nil {QL : List V → Hp → Prop} (k : QL [] H) : tNil σ H QL := k
theorem y_cons {QL : List V → Hp → Prop} (k : ta σ H fun x H1 => ts σ H1 fun xs H2 => QL (x :: xs) H2) : tCons ta ts σ H QL := k
theorem y_lst (k : ts σ H fun xs H1 => xs.length ≤ sizeLine ∧ ∀ p, H1 p = none → Q (.ref p) (upd H1 p (.lst xs))) : tLst ts σ H Q := k
theorem y_tup (k : ts σ H fun xs H1 => xs.length ≤ sizeLine ∧ ∀ p, H1 p = none → Q (.ref p) (upd H1 p (.tup xs))) : tTup ts σ H Q := k
theorem y_sl {r : V → Option Int → Option Int → Hp → VK → Prop} {tl th : TO} (k : te σ H fun x H1 => tl σ H1 fun l H2 => th σ H2 fun u H3 => r x l u H3 Q) : tSl r te tl th σ H Q := k
theorem y_noPart {QO : Option Int → Hp → Prop} (k : QO none H) : tNoPart σ H QO := k
theorem y_part {QO : Option Int → Hp → Prop} (k : te σ H fun x H1 => ∃ i, x = .int i ∧ QO (some i) H1) : tPart te σ H QO := k
theorem y_int {QO : Int → Hp → Prop} {i : Int} (k : QO i H) : ∃ j, V.int i = .int j ∧ QO j H := ⟨i, rfl, k⟩
theorem y_call {sp : Sp} {E : XK} (k : ts σ H fun vs H1 => sp (vs ++ []) H1 Q E) : tCall sp [] E ts σ H Q := k
theorem y_bm {T : String} {r : V → List V → Hp → VK → Prop} (k : te σ H fun x H1 => tyV K T x H1 ∧ ts σ H1 fun xs H2 => r x xs H2 Q) : tBM K T r te ts σ H Q := k
theorem y_bm0 {T : String} {r : V → List V → Hp → VK → Prop} (k : te σ H fun x H1 => tyV K T x H1 ∧ r x [] H1 Q) : tBM0 K T r te σ H Q := k
/-! ### values -/
theorem y_i0 {g : Int → Int → V} {a b : Int} (k : Q (g a b) H) : rI0 g (.int a) (.int b) H Q := ⟨a, b, rfl, rfl, k⟩
theorem y_ig {C : Int → Int → Prop} {g : Int → Int → V} {a b : Int} (c : C a b) (k : Q (g a b) H) : rI C g (.int a) (.int b) H Q := ⟨a, b, rfl, rfl, c, k⟩
theorem y_neg {a : Int} (k : Q (.int (-a)) H) : rU (fun i => .int (-i)) (.int a) H Q := ⟨a, rfl, k⟩
theorem y_eqi {a b : Int} (k : Q (.bl (decide (a = b))) H) : rEq (.int a) (.int b) H Q := ⟨rfl, by
  have e : decide (V.int a = V.int b) = decide (a = b) := by simp
  rw [e]; exact k⟩
theorem y_nei {a b : Int} (k : Q (.bl (!decide (a = b))) H) : rNe (.int a) (.int b) H Q := ⟨rfl, by
  have e : decide (V.int a = V.int b) = decide (a = b) := by simp
  rw [e]; exact k⟩
theorem y_eqb {a b : Bool} (k : Q (.bl (decide (a = b))) H) : rEq (.bl a) (.bl b) H Q := ⟨rfl, by
  have e : decide (V.bl a = V.bl b) = decide (a = b) := by simp
  rw [e]; exact k⟩
theorem y_neb {a b : Bool} (k : Q (.bl (!decide (a = b))) H) : rNe (.bl a) (.bl b) H Q := ⟨rfl, by
  have e : decide (V.bl a = V.bl b) = decide (a = b) := by simp
  rw [e]; exact k⟩
theorem y_eqs {a b : Str} (k : Q (.bl (decide (a = b))) H) : rEq (.str a) (.str b) H Q := ⟨rfl, by
  have e : decide (V.str a = V.str b) = decide (a = b) := by simp
  rw [e]; exact k⟩
theorem y_nes {a b : Str} (k : Q (.bl (!decide (a = b))) H) : rNe (.str a) (.str b) H Q := ⟨rfl, by
  have e : decide (V.str a = V.str b) = decide (a = b) := by simp
  rw [e]; exact k⟩
def eqD {β γ : Type} [Py β] [Py γ] (x : β) (y : γ) : Bool := PyData.eqv (toPy x) (toPy y)
def okD {β : Type} [Py β] (x : β) : Prop := SeqAt.shaped (toPy x) = true
theorem y_eqD {x : α} {y : β} (d1 : Z.D K H v x) (d2 : Z.D K H w y) (hg : okD x ∧ okD y) (k : Q (.bl (eqD x y)) H) : rEqD K v w H Q := ⟨_, _, Dq.dp _ _ (shp hg.1) d1, Dq.dp _ _ (shp hg.2) d2, hg.1, hg.2, k⟩
theorem y_neD {x : α} {y : β} (d1 : Z.D K H v x) (d2 : Z.D K H w y) (hg : okD x ∧ okD y) (k : Q (.bl (!eqD x y)) H) : rNeD K v w H Q := ⟨_, _, Dq.dp _ _ (shp hg.1) d1, Dq.dp _ _ (shp hg.2) d2, hg.1, hg.2, k⟩
def inD (x : α) (ys : List β) : Bool := ys.any fun y => eqD y x
theorem any_map {x : α} : ∀ {ys : List β}, ((ys.map Py.toPy).any fun z => PyData.eqv z (toPy x)) = inD x ys
  | [] => rfl
  | y :: ys => by
    show (_ || _) = (_ || _)
    rw [any_map]; rfl
theorem y_inD {x : α} {ys : List β} (d1 : Z.D K H v x) (d2 : Z.D K H w ys) (hg : okD x ∧ okD ys) (k : Q (.bl (inD x ys)) H) : rInD K v w H Q := ⟨_, _, Dq.dp _ _ (shp hg.1) d1, Dq.dp _ _ (shp hg.2) d2, hg.1, hg.2, by
  have e := any_map (x := x) (ys := ys)
  exact e ▸ k⟩
theorem y_notInD {x : α} {ys : List β} (d1 : Z.D K H v x) (d2 : Z.D K H w ys) (hg : okD x ∧ okD ys) (k : Q (.bl (!inD x ys)) H) : rNotInD K v w H Q := ⟨_, _, Dq.dp _ _ (shp hg.1) d1, Dq.dp _ _ (shp hg.2) d2, hg.1, hg.2, by
  have e := any_map (x := x) (ys := ys)
  exact e ▸ k⟩
theorem dec_non {x : Option β} (d : Z.D K H v x) (hg : ∀ b : β, x = some b → toPy b ≠ .none) : decide (v = .non) = x.isNone := by
  cases x with
  | none => cases d; rfl
  | some b =>
    rw [decide_eq_false]
    · rfl
    · intro ev
      subst ev
      have d3 : Dq K H V.non (toPy b) := d
      have nb := hg b rfl
      generalize toPy b = pb at d3 nb
      cases d3
      exact nb rfl
theorem y_isN {x : Option β} (d : Z.D K H v x) (hg : ∀ b : β, x = some b → toPy b ≠ .none) (k : Q (.bl x.isNone) H) : (fun x y H Q => y = .non ∧ Q (.bl (decide (x = .non))) H : R2) v .non H Q := ⟨rfl, by rw [dec_non d hg]; exact k⟩
theorem y_notN {x : Option β} (d : Z.D K H v x) (hg : ∀ b : β, x = some b → toPy b ≠ .none) (k : Q (.bl x.isSome) H) : (fun x y H Q => y = .non ∧ Q (.bl (!decide (x = .non))) H : R2) v .non H Q := ⟨rfl, by
  rw [dec_non d hg, show (!x.isNone) = x.isSome by cases x <;> rfl]; exact k⟩
/-! lists read -/
theorem y_ixL {xs : List α} {i : Int} {f : α → W γ} (d : LV K rs Ho v xs) (z : Zs rs H Ho) (hw : (W.bind (W.opt (atI xs i)) f).run Φ) (k : ∀ t w, Z.D K Ho w t → (f t).run Φ → Q w H) : rIxL K v (.int i) H Q := by
  obtain ⟨p, vs, rfl, d, s⟩ := d.rd z
  obtain ⟨a, ea, hw⟩ := hw
  obtain ⟨w, ew, dw⟩ := DL.at d ea
  exact ⟨p, vs, i, w, rfl, rfl, s, ew, k a w dw hw⟩
theorem y_ixT {x : α} {y : β} {i : Int} (d : Z.D K Ho v x) (z : Zs rs H Ho) (hj : ∃ ds, toPy x = .tuple ds ∧ atI ds i = some (toPy y)) (k : ∀ w, Z.D K Ho w y → Q w H) : rIxT K v (.int i) H Q := by
  obtain ⟨ds, e1, e3⟩ := hj
  have d : Dq K Ho v (toPy x) := d
  rw [e1] at d
  cases d with
  | tup hs ha =>
    have hl := dpAll_len ha
    unfold atI at e3
    rw [← hl] at e3
    cases q : ixN _ i with
    | none => rw [q] at e3; cases e3
    | some j =>
      rw [q] at e3
      obtain ⟨w, ew, dw⟩ := dpAll_get ha e3
      refine ⟨_, _, _, w, rfl, rfl, SqT.of (z.le _ _ hs), ?_, k w dw⟩
      unfold atI
      rw [q]
      exact ew
theorem y_ixTp {xs : Tp α} {i : Int} {f : α → W γ} (d : Z.D K Ho v xs) (z : Zs rs H Ho) (hw : (W.bind (W.opt (atI xs.l i)) f).run Φ) (k : ∀ t w, Z.D K Ho w t → (f t).run Φ → Q w H) : rIxT K v (.int i) H Q := by
  obtain ⟨a, ea, hw⟩ := hw
  cases d with
  | tup hs ha =>
    obtain ⟨w, ew, dw⟩ := DL.at (K := K) (H := Ho) ha ea
    exact ⟨_, _, i, w, rfl, rfl, SqT.of (z.le _ _ hs), ew, k a w dw hw⟩
theorem y_slL {xs : List α} {l h : Option Int} (d : LV K rs Ho v xs) (z : Zs rs H Ho) (k : ∀ H' p ws, Zs ((p, .lst ws) :: rs) H' Ho → DL K Ho ws (Z.cut xs l h) → Q (.ref p) H') : rSlL K v l h H Q := by
  obtain ⟨p, vs, rfl, d, s⟩ := d.rd z
  exact ⟨p, vs, rfl, s, fun q hq => k _ q _ (z.root hq) (DL.cut d l h)⟩
theorem y_cat {xs ys : List α} (d1 : LV K rs Ho v xs) (d2 : LV K rs Ho w ys) (z : Zs rs H Ho) (hg : xs.length + ys.length ≤ sizeLine) (k : ∀ H' p ws, Zs ((p, .lst ws) :: rs) H' Ho → DL K Ho ws (xs ++ ys) → Q (.ref p) H') : rCatS K v w H Q := by
  obtain ⟨p, vs, rfl, d, s⟩ := LV.rd d1 z
  obtain ⟨p', vs', rfl, d', s'⟩ := LV.rd d2 z
  exact ⟨p, p', vs, vs', rfl, rfl, s, s', by rw [d.len, d'.len]; exact hg, fun q hq => k _ _ _ (z.root hq) (d.append d')⟩
theorem rep_dl {vs : List V} {xs : List α} (d : DL K Ho vs xs) (n : Nat) : DL K Ho (List.replicate n vs).flatten (List.replicate n xs).flatten := by
  induction n with
  | zero => exact .nil
  | succ n ih =>
    rw [List.replicate_succ, List.flatten_cons, List.replicate_succ, List.flatten_cons]
    exact d.append ih
def repG {α : Type} (xs : List α) (k : Int) : Prop := -(2 ^ 63) ≤ k ∧ k < 2 ^ 63 ∧ xs.length * k.toNat ≤ sizeLine
def repL {α : Type} (xs : List α) (k : Int) : List α := (List.replicate k.toNat xs).flatten
/-- the new list xs, repeated -/
theorem y_rep {ws : List V} {xs : List α} {n : Int} (z : Zs ((p, .lst ws) :: rs) H Ho) (d : DL K Ho ws xs) (hg : repG xs n) (k : ∀ H' q ws', Zs ((q, .lst ws') :: rs) H' Ho → DL K Ho ws' (repL xs n) → Q (.ref q) H') : rRep (.ref p) (.int n) H Q :=
  ⟨p, n, ws, rfl, rfl, z.head, hg.1, hg.2.1, by rw [DL.len d]; exact hg.2.2, fun q hq => k _ q _ (z.root hq).sw1.tail (rep_dl d _)⟩
theorem y_lstk {vs : List V} {xs : List α} (z : Zs rs H Ho) (d : DL K Ho vs xs) (hl : vs.length ≤ sizeLine) (k : ∀ H' p ws, Zs ((p, .lst ws) :: rs) H' Ho → DL K Ho ws xs → Q (.ref p) H') : vs.length ≤ sizeLine ∧ ∀ p, H p = none → Q (.ref p) (upd H p (.lst vs)) :=
  ⟨hl, fun p hp => k _ p _ (z.root hp) d⟩
theorem y_tupk {vs : List V} {x : α} (z : Zs rs H Ho) (hl : vs.length ≤ sizeLine) (ds : List PyData) (hx : toPy x = .tuple ds) (d : DqAll K Ho vs ds) (k : ∀ p H' Ho', Same Ho Ho' → Zs rs H' Ho' → Z.D K Ho' (.ref p) x → Q (.ref p) H') :
    vs.length ≤ sizeLine ∧ ∀ p, H p = none → Q (.ref p) (upd H p (.tup vs)) :=
  ⟨hl, fun p hp => by
    have e3 : Same Ho (upd Ho p (.tup vs)) := Same.new (z.free hp)
    refine k p _ _ e3 (z.alloc hp) ?_
    show Dq K _ _ (toPy x)
    rw [hx]
    exact .tup upd_same (dpAll_mono e3 _ _ d)⟩
/-! ### statements -/
theorem y_asg (σ' : V → L2.St) (hσ : ∀ v, σ.set i (some v) = σ' v) (k : te σ H fun v H1 => u D (σ' v) H1) : tSeq (tAsg te (gName i)) u D σ H := by
  have e : (fun v H1 => u D (σ' v) H1) = fun v H1 => u D (σ.set i (some v)) H1 := by funext v H1; rw [hσ]
  rw [e] at k
  exact k
theorem y_asgG {g : TG} (k : te σ H fun v H1 => g v σ H1 fun σ' H' => u D σ' H') : tSeq (tAsg te g) u D σ H := k
theorem y_drop (k : te σ H fun _ H1 => u D σ H1) : tSeq (tDrop te) u D σ H := k
theorem y_ret (k : te σ H D.rt) : tSeq (tRet te) u D σ H := k
theorem y_retN (k : D.rt .non H) : tSeq tRetN u D σ H := k
theorem y_doc (k : u D σ H) : tSeq tNext u D σ H := k
theorem y_ifS (k : tt σ H fun b H1 => if b = true then t1 { D with nx := u D } σ H1 else t2 { D with nx := u D } σ H1) : tSeq (tIfS tt t1 t2) u D σ H := k
theorem y_cases {A B : W γ} {b : Bool} {X Y : Prop} (hw : (W.ite b A B).run Φ) (h1 : b = true → A.run Φ → X) (h2 : b = false → B.run Φ → Y) : if b = true then X else Y := by
  cases b with
  | true => exact iteT (h1 rfl (hw.1 rfl))
  | false => exact iteF (h2 rfl (hw.2 rfl))
theorem y_nx (k : D.nx σ H) : tNext D σ H := k
theorem run_ret {β : Type} {a : β} {Φ : β → Prop} (h : (W.ret a).run Φ) : Φ a := h
/-- a value gets a name -/
theorem y_let {e : β} {f : β → W γ} {G : Prop} (hw : (W.bind (W.ret e) f).run Φ) (P : β → Prop) (hp : P e) (k : ∀ x, P x → (f x).run Φ → G) : G := k e hp hw
theorem y_letI {e : Int} {f : Int → W γ} {G : V → Hp → Prop} (hw : (W.bind (W.ret e) f).run Φ) (k : ∀ x, (f x).run Φ → G (.int x) H) : G (.int e) H := k e hw
theorem y_letB {e : Bool} {f : Bool → W γ} {G : V → Hp → Prop} (hw : (W.bind (W.ret e) f).run Φ) (k : ∀ x, (f x).run Φ → G (.bl x) H) : G (.bl e) H := k e hw
theorem y_letS {e : Str} {f : Str → W γ} {G : V → Hp → Prop} (hw : (W.bind (W.ret e) f).run Φ) (k : ∀ x, (f x).run Φ → G (.str x) H) : G (.str e) H := k e hw
def apd {α : Type} (xs : List α) (x : α) : W (List α) := W.guard (xs.length < sizeLine) (W.ret (xs ++ [x]))
def exd {α : Type} (xs ys : List α) : W (List α) := W.guard (xs.length + ys.length ≤ sizeLine) (W.ret (xs ++ ys))
def sti {α : Type} (xs : List α) (i : Int) (y : α) : W (List α) := W.bind (W.opt (ixN xs.length i)) fun j => W.ret (xs.set j y)
theorem y_tyL {R : Prop} {n : Nat} {ws : List V} (z : Zs rs H Ho) (hn : rs[n]? = some (p, .lst ws)) (k : R) : tyV K "list" (.ref p) H ∧ R := ⟨.inl ⟨rfl, _, SqL.of (z.rt _ (List.mem_of_getElem? hn)).1⟩, k⟩
theorem y_app {n : Nat} {ws : List V} {xs : List α} {x : α} {f : List α → W γ} (z : Zs rs H Ho) (hn : rs[n]? = some (p, .lst ws)) (d : DL K Ho ws xs) (dx : Z.D K Ho w x) (hw : (W.bind (apd xs x) f).run Φ) (k : ∀ xs' ws' H', Zs (rs.set n (p, .lst ws')) H' Ho → DL K Ho ws' xs' → (f xs').run Φ → Q .non H') : rAppend (.ref p) [w] H Q := by
  have hp := z.rt _ (List.mem_of_getElem? hn)
  exact ⟨p, ws, w, rfl, rfl, hp.1, by rw [DL.len d]; exact hw.1, k _ _ _ (z.putI hn) (d.push dx) hw.2⟩
theorem y_ext {n m : Nat} {ws us : List V} {q : Addr} {xs ys : List α} {f : List α → W γ} (z : Zs rs H Ho) (hn : rs[n]? = some (p, .lst ws)) (hm : rs[m]? = some (q, .lst us)) (d : DL K Ho ws xs) (dx : DL K Ho us ys) (hw : (W.bind (exd xs ys) f).run Φ) (k : ∀ xs' ws' H', Zs (rs.set n (p, .lst ws')) H' Ho → DL K Ho ws' xs' → (f xs').run Φ → Q .non H') : rExtend (.ref p) [.ref q] H Q := by
  have hp := z.rt _ (List.mem_of_getElem? hn)
  have hq := z.rt _ (List.mem_of_getElem? hm)
  exact ⟨p, q, ws, us, rfl, rfl, hp.1, hq.1, by rw [DL.len d, DL.len dx]; exact hw.1, k _ _ _ (z.putI hn) (d.append dx) hw.2⟩
/-- xs.pop() -/
def popL {α : Type} (xs : List α) : W α := W.opt xs[xs.length - 1]?
theorem dpAll_dropLast {vs : List V} {ds : List PyData} (h : DqAll K H vs ds) : DqAll K H vs.dropLast ds.dropLast := by
  have hl := dpAll_len h
  rw [List.dropLast_eq_take, List.dropLast_eq_take, hl]
  exact dpAll_take h _
theorem y_pop {n : Nat} {ws : List V} {xs : List α} {f : α → W γ} (z : Zs rs H Ho) (hn : rs[n]? = some (p, .lst ws)) (d : DL K Ho ws xs) (hw : (W.bind (popL xs) f).run Φ) (k : ∀ t w ws' H', Zs (rs.set n (p, .lst ws')) H' Ho → DL K Ho ws' xs.dropLast → Z.D K Ho w t → (f t).run Φ → Q w H') : rPop (.ref p) [] H Q := by
  have hp := z.rt _ (List.mem_of_getElem? hn)
  obtain ⟨t, et, hw⟩ := hw
  rw [← DL.len d] at et
  obtain ⟨w, ew, dw⟩ := DL.get d et
  refine ⟨p, ws, w, rfl, rfl, hp.1, ew, k t w _ _ (z.putI hn) ?_ dw hw⟩
  show DqAll _ _ _ (xs.dropLast.map Py.toPy)
  rw [List.map_dropLast]
  exact dpAll_dropLast d
/-- xs.pop(i) -/
def popI {α : Type} (xs : List α) (i : Int) : W (α × List α) := W.guard (-(2 ^ 63) ≤ i ∧ i < 2 ^ 63) (W.bind (W.opt (ixN xs.length i)) fun j => W.bind (W.opt xs[j]?) fun x => W.ret (x, xs.eraseIdx j))
theorem ixN_seq {n : Nat} {i : Int} {j : Nat} (h : ixN n i = some j) : seqIndex? i n = some j := by
  unfold ixN at h
  by_cases c : 0 ≤ i
  · rw [if_pos c] at h
    split at h
    · rename_i hl
      have e : i.toNat = j := Option.some.inj h
      rw [seqIndex_of c (by omega)]
      exact h
    · cases h
  · rw [if_neg c] at h
    split at h
    · rename_i hl
      rw [seqIndex_neg (by omega) (by omega)]
      rw [← h]
    · cases h
theorem dpAll_erase {vs : List V} {ds : List PyData} (h : DqAll K H vs ds) (j : Nat) : DqAll K H (vs.eraseIdx j) (ds.eraseIdx j) := by
  induction vs generalizing ds j with
  | nil => cases h; exact .nil
  | cons u vs ih =>
    cases h with
    | cons h1 h2 =>
      cases j with
      | zero => exact h2
      | succ j => exact .cons h1 (ih h2 j)
theorem map_erase {α β : Type} (f : α → β) : ∀ (xs : List α) (j : Nat), (xs.eraseIdx j).map f = (xs.map f).eraseIdx j
  | [], _ => rfl
  | x :: xs, 0 => rfl
  | x :: xs, j + 1 => by simp [map_erase f xs j]
theorem y_popI {n : Nat} {ws : List V} {xs : List α} {i : Int} {f : α × List α → W γ} (z : Zs rs H Ho) (hn : rs[n]? = some (p, .lst ws)) (d : DL K Ho ws xs) (hw : (W.bind (popI xs i) f).run Φ) (k : ∀ t xs' w ws' H', Zs (rs.set n (p, .lst ws')) H' Ho → DL K Ho ws' xs' → Z.D K Ho w t → (f (t, xs')).run Φ → Q w H') : rPopAt (.ref p) [.int i] H Q := by
  have hp := z.rt _ (List.mem_of_getElem? hn)
  obtain ⟨⟨g1, g2⟩, j, ej, t, et, hw⟩ := hw
  obtain ⟨w, ew, dw⟩ := DL.get d et
  refine ⟨p, ws, i, j, w, rfl, rfl, hp.1, g1, g2, ixN_seq (by rw [DL.len d]; exact ej), ew, k t _ w _ _ (z.putI hn) ?_ dw hw⟩
  show DqAll _ _ _ ((xs.eraseIdx j).map Py.toPy)
  rw [map_erase]
  exact dpAll_erase d j
theorem y_gsub {to ti : TE} {t : TSet} {QS : L2.St → Hp → Prop} (k : to σ H fun o H1 => ti σ H1 fun i H2 => t o i v H2 fun H3 => QS σ H3) : gSub to ti t v σ H QS := k
theorem y_sti {n : Nat} {ws : List V} {xs : List α} {x : α} {i : Int} {QH : Hp → Prop} {f : List α → W γ} (z : Zs rs H Ho) (hn : rs[n]? = some (p, .lst ws)) (d : DL K Ho ws xs) (dx : Z.D K Ho w x) (hw : (W.bind (sti xs i x) f).run Φ) (k : ∀ xs' ws' H', Zs (rs.set n (p, .lst ws')) H' Ho → DL K Ho ws' xs' → (f xs').run Φ → QH H') : rSetL (.ref p) (.int i) w H QH := by
  have hp := z.rt _ (List.mem_of_getElem? hn)
  obtain ⟨j, ej, hw⟩ := hw
  exact ⟨p, ws, i, j, rfl, rfl, hp.1, by rw [DL.len d]; exact ej, k _ _ _ (z.putI hn) (DL.set d dx j) hw⟩
theorem y_augS {to ti : TE} {tget : V → V → Hp → VK → Prop} {tip : TIp} {tset : TSet} (k : to σ H fun o H1 => ti σ H1 fun i H2 => tget o i H2 fun x H3 => te σ H3 fun y H4 => tip x y H4 fun z H5 => tset o i z H5 fun H6 => u D σ H6) : tSeq (tAugS to ti te tget tip tset) u D σ H := k
theorem y_ip {f : Int → Int → Int} {a b : Int} (k : Q (.int (f a b)) H) : ipI f (.int a) (.int b) H Q := ⟨a, b, rfl, rfl, k⟩
theorem y_aug (σ' : V → L2.St) {tip : TIp} (h : σ[i]? = some (some v)) (hσ : ∀ v, σ.set i (some v) = σ' v) (k : te σ H fun y H1 => tip v y H1 fun z H2 => u D (σ' z) H2) : tSeq (tAug i te tip) u D σ H := by
  have e : (fun z H2 => u D (σ' z) H2) = fun z H2 => u D (σ.set i (some z)) H2 := by funext v H1; rw [hσ]
  refine ⟨v, h, ?_⟩
  rw [e] at k
  exact k
end
end Z

/-! # Y2: what is walked, loops, comprehensions, joins, errors, built-ins -/
namespace Z
open PySem PySem.Spec PyProof.Rows L2

/-! ### what is walked -/
def rng (a b : Int) : List Int := (List.range (b - a).toNat).map fun k : Nat => a + k
def rngD (a b : Int) : List Int := (List.range (a - b).toNat).map fun k : Nat => a - k
def enumZ {α : Type} (xs : List α) : List (Int × α) := (rng 0 xs.length).zip xs
def enumS {α : Type} (n : Int) (xs : List α) : List (Int × α) := (rng n (n + xs.length)).zip xs
def rngOk (a b : Int) : Prop := -(2 ^ 62) ≤ a ∧ a < 2 ^ 62 ∧ -(2 ^ 62) ≤ b ∧ b < 2 ^ 62
/-- the turns of an iterator, by the items' data -/
def Trn {α : Type} [Py α] (K : PySem.W.Frag) (r0 : List (Addr × HO)) (J : It) (xs : List α) (Ho2 : Hp) : Prop :=
  ∀ i rs' H' Ho', Same Ho2 Ho' → Zs rs' H' Ho' → (∀ r ∈ r0, r ∈ rs') → (∀ a, xs[i]? = some a → J.go i H' ∧ ∀ x H'', J.yld i H' x H'' → ∃ Ho'', Same Ho' Ho'' ∧ (∀ rs, Zs rs H' Ho' → Zs rs H'' Ho'') ∧ D K Ho'' x a) ∧ (xs.length ≤ i → J.stop i H')
section
variable {K : PySem.W.Frag} {rs r0 : List (Addr × HO)} {σ : L2.St} {H Ho : Hp} {ta tb tc te tl : TE} {tt tu : TT} {α β γ : Type} [Py α] [Py β] {p : Addr} {Φ : γ → Prop} {R : It → Hp → Prop} {v u : V}
theorem src_stay {q : Addr} {ys : List V} {rs' : List (Addr × HO)} {H Ho' : Hp} (s : SqL K Ho q ys ∨ (q, HO.lst ys) ∈ rs) (e : Same Ho Ho') (z : Zs rs' H Ho') (sub : ∀ r ∈ rs, r ∈ rs') : SqL K H q ys := by
  rcases s with s | s
  · exact z.le.seq (e.seq s)
  · exact SqL.of (z.rt _ (sub _ s)).1
theorem trn_list {q : Addr} {xs : List α} {v : V} (h : LV K r0 Ho v xs) (hv : v = .ref q) : Trn K r0 (Itl K q) xs Ho := by
  intro i rs' H' Ho' e z sub
  obtain ⟨q', ys, rfl, d, s⟩ := h
  cases hv
  have sq : SqL K H' q ys := src_stay s e z sub
  refine ⟨fun a ha => ?_, fun hl => ⟨ys, sq, by rw [d.len]; exact hl⟩⟩
  obtain ⟨w, ew, dw⟩ := d.get ha
  refine ⟨⟨ys, w, sq, ew⟩, fun x H'' y => ?_⟩
  obtain ⟨rfl, y⟩ := y
  have ex : x = w := Option.some.inj ((y _ sq).symm.trans ew)
  subst ex
  exact ⟨Ho', Same.refl _, fun _ z => z, D.mo dw e⟩
theorem y_iList (k : te σ H fun x H1 => ∃ a, x = .ref a ∧ (∃ xs, SqL K H1 a xs) ∧ R (Itl K a) H1) : iList K te σ H R := k
theorem y_srcL {xs : List α} (d : LV K r0 Ho v xs) (hs : ∀ r ∈ r0, r ∈ rs) (z : Zs rs H Ho) (k : ∀ J, Trn K r0 J xs Ho → R J H) : ∃ a, v = .ref a ∧ (∃ ys, SqL K H a ys) ∧ R (Itl K a) H := by
  obtain ⟨q, ys, rfl, dd, s⟩ := id d
  exact ⟨q, rfl, ⟨ys, src_stay s (Same.refl _) z hs⟩, k _ (trn_list d rfl)⟩
theorem trn_tup {q : Addr} {xs : List α} {ys : List V} (s : Ho q = some (.tup ys)) (d : DL K Ho ys xs) : Trn K [] (Itt K q) xs Ho := by
  intro i rs' H' Ho' e z sub
  have sq : SqT K H' q ys := SqT.of (z.le _ _ (e _ _ s))
  refine ⟨fun a ha => ?_, fun hl => ⟨ys, sq, by rw [d.len]; exact hl⟩⟩
  obtain ⟨w, ew, dw⟩ := d.get ha
  refine ⟨⟨ys, w, sq, ew⟩, fun x H'' y => ?_⟩
  obtain ⟨rfl, y⟩ := y
  have ex : x = w := Option.some.inj ((y _ sq).symm.trans ew)
  subst ex
  exact ⟨Ho', Same.refl _, fun _ z => z, D.mo dw e⟩
theorem y_iTup (k : te σ H fun x H1 => ∃ a, x = .ref a ∧ (∃ xs, SqT K H1 a xs) ∧ R (Itt K a) H1) : iTup K te σ H R := k
/-- over a tuple of things of one kind -/
theorem y_srcT {x : β} {xs : List α} (d : D K Ho v x) (hf : toPy x = .tuple (xs.map Py.toPy)) (z : Zs rs H Ho) (k : ∀ J, Trn K [] J xs Ho → R J H) : ∃ a, v = .ref a ∧ (∃ ys, SqT K H a ys) ∧ R (Itt K a) H := by
  have d : Dq K Ho v (toPy x) := d
  rw [hf] at d
  cases d with
  | tup hs ha => exact ⟨_, rfl, ⟨_, SqT.of (z.le _ _ hs)⟩, k _ (trn_tup hs ha)⟩
theorem rng_get {a b : Int} {i : Nat} {x : Int} (h : (rng a b)[i]? = some x) : i < (b - a).toNat ∧ x = a + i := by
  unfold rng at h
  rw [List.getElem?_map] at h
  cases e : (List.range (b - a).toNat)[i]? with
  | none => rw [e] at h; cases h
  | some k =>
    rw [e] at h
    obtain ⟨hl, ek⟩ := List.getElem?_eq_some_iff.mp e
    rw [List.getElem_range] at ek
    subst ek
    rw [List.length_range] at hl
    exact ⟨hl, (Option.some.inj h).symm⟩
theorem rng_len {a b : Int} : (rng a b).length = (b - a).toNat := by unfold rng; simp
theorem trn_range {a b : Int} : Trn K [] (Itr a (b - a).toNat) (rng a b) Ho := by
  intro i rs' H' Ho' e z sub
  refine ⟨fun x hx => ?_, fun hl => ?_⟩
  · obtain ⟨hi, rfl⟩ := rng_get hx
    refine ⟨hi, fun y H'' yy => ?_⟩
    obtain ⟨rfl, rfl⟩ := yy
    exact ⟨Ho', Same.refl _, fun _ z => z, .int _⟩
  · rw [rng_len] at hl
    exact hl
theorem y_iR1 {ts : TA} (k : ts σ H fun vs H1 => ∃ j : Int, vs = [.int j] ∧ -(2 ^ 62) ≤ j ∧ j < 2 ^ 62 ∧ R (Itr 0 j.toNat) H1) : iRng1 ts σ H R := k
theorem y_iR2 {ts : TA} (k : ts σ H fun vs H1 => ∃ i j : Int, vs = [.int i, .int j] ∧ (-(2 ^ 62) ≤ i ∧ i < 2 ^ 62 ∧ -(2 ^ 62) ≤ j ∧ j < 2 ^ 62) ∧ R (Itr i (j - i).toNat) H1) : iRng2 ts σ H R := k
theorem y_srcR1 {n : Int} (hg : rngOk 0 n) (k : ∀ J, Trn K [] J (rng 0 n) Ho → R J H) : ∃ j : Int, [V.int n] = [.int j] ∧ -(2 ^ 62) ≤ j ∧ j < 2 ^ 62 ∧ R (Itr 0 j.toNat) H := by
  refine ⟨n, rfl, hg.2.2.1, hg.2.2.2, ?_⟩
  have e : n.toNat = (n - 0).toNat := by rw [Int.sub_zero]
  rw [e]
  exact k _ trn_range
theorem y_srcR2 {a b : Int} (hg : rngOk a b) (k : ∀ J, Trn K [] J (rng a b) Ho → R J H) : ∃ i j : Int, [V.int a, V.int b] = [.int i, .int j] ∧ (-(2 ^ 62) ≤ i ∧ i < 2 ^ 62 ∧ -(2 ^ 62) ≤ j ∧ j < 2 ^ 62) ∧ R (Itr i (j - i).toNat) H :=
  ⟨a, b, rfl, hg, k _ trn_range⟩
theorem trn_rangeD {a b : Int} : Trn K [] (Itc a (-1) (a - b).toNat) (rngD a b) Ho := by
  intro i rs' H' Ho' e z sub
  refine ⟨fun x hx => ?_, fun hl => ?_⟩
  · unfold rngD at hx
    rw [List.getElem?_map] at hx
    cases q : (List.range (a - b).toNat)[i]? with
    | none => rw [q] at hx; cases hx
    | some k =>
      rw [q] at hx
      obtain ⟨hl, ek⟩ := List.getElem?_eq_some_iff.mp q
      rw [List.getElem_range] at ek
      subst ek
      rw [List.length_range] at hl
      have ex : x = a - i := (Option.some.inj hx).symm
      subst ex
      refine ⟨hl, fun y H'' yy => ?_⟩
      obtain ⟨rfl, rfl⟩ := yy
      have q2 : a + (i : Int) * -1 = a - i := by omega
      rw [q2]
      exact ⟨Ho', Same.refl _, fun _ z => z, .int _⟩
  · unfold rngD at hl
    rw [List.length_map, List.length_range] at hl
    exact hl
theorem trn_zip {a b : Addr} {xs : List α} {ys : List β} {v u : V} (h : LV K r0 Ho v xs) (hv : v = .ref a) (h' : LV K r0 Ho u ys) (hu : u = .ref b) : Trn K r0 (Itz K a b) (xs.zip ys) Ho := by
  intro i rs' H' Ho' e z sub
  obtain ⟨a', vs, rfl, d, s⟩ := h
  obtain ⟨b', us, rfl, d', s'⟩ := h'
  cases hv
  cases hu
  have sa : SqL K H' a vs := src_stay s e z sub
  have sb : SqL K H' b us := src_stay s' e z sub
  refine ⟨fun p hp => ?_, fun hl => ⟨vs, us, sa, sb, ?_⟩⟩
  · obtain ⟨hx, hy⟩ := List.getElem?_zip_eq_some.mp hp
    obtain ⟨x, ex, dx⟩ := d.get hx
    obtain ⟨y, ey, dy⟩ := d'.get hy
    refine ⟨⟨vs, us, x, y, sa, sb, ex, ey⟩, fun t H'' yy => ?_⟩
    obtain ⟨T, x', y', rfl, hT, rfl, qx, qy⟩ := yy
    have e1 : x' = x := Option.some.inj ((qx _ sa).symm.trans ex)
    have e2 : y' = y := Option.some.inj ((qy _ sb).symm.trans ey)
    subst e1 e2
    have e3 : Same Ho' (upd Ho' T (.tup [x', y'])) := Same.new (z.free hT)
    exact ⟨_, e3, fun _ z => z.alloc hT, .tup upd_same (.cons (D.mo (D.mo dx e) e3) (.cons (D.mo (D.mo dy e) e3) .nil))⟩
  · rw [List.length_zip] at hl
    rw [d.len, d'.len]
    omega
theorem trn_enum {a : Addr} {xs : List α} {v : V} (h : LV K r0 Ho v xs) (hv : v = .ref a) : Trn K r0 (Ite K a) (enumZ xs) Ho := by
  intro i rs' H' Ho' e z sub
  obtain ⟨a', vs, rfl, d, s⟩ := h
  cases hv
  have sa : SqL K H' a vs := src_stay s e z sub
  refine ⟨fun p hp => ?_, fun hl => ⟨vs, sa, ?_⟩⟩
  · obtain ⟨hx, hy⟩ := List.getElem?_zip_eq_some.mp hp
    obtain ⟨_, hx⟩ := rng_get hx
    obtain ⟨y, ey, dy⟩ := d.get hy
    refine ⟨⟨vs, y, sa, ey⟩, fun t H'' yy => ?_⟩
    obtain ⟨T, y', rfl, hT, rfl, qy⟩ := yy
    have e2 : y' = y := Option.some.inj ((qy _ sa).symm.trans ey)
    subst e2
    have e3 : Same Ho' (upd Ho' T (.tup [.int (i : Nat), y'])) := Same.new (z.free hT)
    obtain ⟨p1, p2⟩ := p
    dsimp only at hx
    rw [Int.zero_add] at hx
    subst hx
    exact ⟨_, e3, fun _ z => z.alloc hT, .tup upd_same (.cons (.int _) (.cons (D.mo (D.mo dy e) e3) .nil))⟩
  · unfold enumZ at hl
    rw [List.length_zip, rng_len] at hl
    rw [d.len]
    omega
theorem trn_rev {a : Addr} {xs : List α} {v : V} (h : LV K r0 Ho v xs) (hv : v = .ref a) : Trn K r0 (Itv K a xs.length) xs.reverse Ho := by
  intro i rs' H' Ho' e z sub
  obtain ⟨a', vs, rfl, d, s⟩ := h
  cases hv
  have sa : SqL K H' a vs := src_stay s e z sub
  have hl := d.len
  refine ⟨fun p hp => ?_, fun hl => by rw [List.length_reverse] at hl; exact hl⟩
  have hi : i < xs.length := by
    have := (List.getElem?_eq_some_iff.mp hp).1
    rwa [List.length_reverse] at this
  rw [List.getElem?_reverse hi] at hp
  obtain ⟨x, ex, dx⟩ := d.get hp
  refine ⟨⟨hi, vs, x, sa, ex⟩, fun t H'' yy => ?_⟩
  obtain ⟨rfl, qx⟩ := yy
  have e1 : t = x := Option.some.inj ((qx _ sa).symm.trans ex)
  subst e1
  exact ⟨Ho', Same.refl _, fun _ z => z, D.mo dx e⟩
section
variable {ts : TA}
theorem y_iR3 (k : ts σ H fun vs H1 => ∃ (a b c : Int) (n : Nat), vs = [.int a, .int b, .int c] ∧ RgC a b c n ∧ R (Itc a c n) H1) : iRng3 ts σ H R := k
theorem y_srcR3 {a b : Int} (hg : rngOk b a) (k : ∀ J, Trn K [] J (rngD a b) Ho → R J H) : ∃ (a' b' c : Int) (n : Nat), [V.int a, V.int b, V.int (-1)] = [.int a', .int b', .int c] ∧ RgC a' b' c n ∧ R (Itc a' c n) H :=
  ⟨a, b, -1, _, rfl, RgC.neg hg.2.2.1 hg.2.2.2 hg.1 hg.2.1, k _ trn_rangeD⟩
theorem y_iZip (k : ts σ H fun vs H1 => ∃ a b xs ys, vs = [.ref a, .ref b] ∧ SqL K H1 a xs ∧ SqL K H1 b ys ∧ R (Itz K a b) H1) : iZip K ts σ H R := k
theorem y_srcZ {xs : List α} {ys : List β} (d : LV K r0 Ho v xs) (d' : LV K r0 Ho u ys) (hs : ∀ r ∈ r0, r ∈ rs) (z : Zs rs H Ho) (k : ∀ J, Trn K r0 J (xs.zip ys) Ho → R J H) : ∃ a b xs ys, [v, u] = [.ref a, .ref b] ∧ SqL K H a xs ∧ SqL K H b ys ∧ R (Itz K a b) H := by
  obtain ⟨a', vs, rfl, dd, s⟩ := id d
  obtain ⟨b', us, rfl, dd', s'⟩ := id d'
  exact ⟨a', b', vs, us, rfl, src_stay s (Same.refl _) z hs, src_stay s' (Same.refl _) z hs, k _ (trn_zip d rfl d' rfl)⟩
theorem y_iEnum (k : ts σ H fun vs H1 => ∃ a xs, vs = [.ref a] ∧ SqL K H1 a xs ∧ R (Ite K a) H1) : iEnum K ts σ H R := k
theorem y_srcE {xs : List α} (d : LV K r0 Ho v xs) (hs : ∀ r ∈ r0, r ∈ rs) (z : Zs rs H Ho) (k : ∀ J, Trn K r0 J (enumZ xs) Ho → R J H) : ∃ a xs, [v] = [.ref a] ∧ SqL K H a xs ∧ R (Ite K a) H := by
  obtain ⟨a', vs, rfl, dd, s⟩ := id d
  exact ⟨a', vs, rfl, src_stay s (Same.refl _) z hs, k _ (trn_enum d rfl)⟩
theorem y_iRev (k : ts σ H fun vs H1 => ∃ a xs, vs = [.ref a] ∧ SqL K H1 a xs ∧ R (Itv K a xs.length) H1) : iRev K ts σ H R := k
theorem y_srcV {xs : List α} (d : LV K r0 Ho v xs) (hs : ∀ r ∈ r0, r ∈ rs) (z : Zs rs H Ho) (k : ∀ J, Trn K r0 J xs.reverse Ho → R J H) : ∃ a xs, [v] = [.ref a] ∧ SqL K H a xs ∧ R (Itv K a xs.length) H := by
  obtain ⟨a', vs, rfl, dd, s⟩ := id d
  exact ⟨a', vs, rfl, src_stay s (Same.refl _) z hs, by rw [dd.len]; exact k _ (trn_rev d rfl)⟩
end
/-! ### loops -/
theorem drop_cons {γ : Type} {xs : List γ} {i : Nat} {x : γ} (h : xs[i]? = some x) : xs.drop i = x :: xs.drop (i + 1) := by
  obtain ⟨hi, e⟩ := List.getElem?_eq_some_iff.mp h
  rw [List.drop_eq_getElem_cons hi, e]
def ForG (g : TG) (tb u : TS) (D : Ends) (σ : L2.St) (J : It) (H1 : Hp) : Prop := ∃ W : Nat → Nat → L2.St → Hp → Prop, (∃ m, W 0 m σ H1) ∧ ∀ i m σ H, W i m σ H →
  (J.stop i H ∧ u D σ H) ∨ (J.go i H ∧ ∃ N : L2.St → Hp → Prop, (∀ σ' H', N σ' H' → ∃ m', m' < m ∧ W (i + 1) m' σ' H') ∧ ∀ x H', J.yld i H x H' → g x σ H' fun σ2 H2 => tb { D with nx := N, ct := N, bk := u D } σ2 H2)
variable {g : TG} {u1 tb' : TS} {D : Ends}
theorem y_for {wi_ : TI} (k : wi_ σ H fun J H1 => ForG g tb' u1 D σ J H1) : tSeq (tFor wi_ g tb') u1 D σ H := k
theorem y_forL {S : Type} {J : It} {xs : List α} {s0 : S} {body : α → S → W S} {f : S → W γ} (T : Trn K r0 J xs Ho) (hw : (W.bind (W.forL xs s0 body) f).run Φ) (I : S → L2.St → Hp → Hp → Prop) (i0 : I s0 σ H Ho)
    (hz : ∀ s σ' H' Ho', I s σ' H' Ho' → ∃ rs', Zs rs' H' Ho' ∧ ∀ r ∈ r0, r ∈ rs')
    (im : ∀ s σ' H' Ho' H'' Ho'', I s σ' H' Ho' → Same Ho' Ho'' → (∀ rs, Zs rs H' Ho' → Zs rs H'' Ho'') → I s σ' H'' Ho'')
    (step : ∀ a x s σ' H' Ho' (N : L2.St → Hp → Prop), Same Ho Ho' → I s σ' H' Ho' → Z.D K Ho' x a → (body a s).run (fun s' => ∀ σ'' H'' Ho'', Same Ho' Ho'' → I s' σ'' H'' Ho'' → N σ'' H'') → g x σ' H' fun σ2 H2 => tb' { D with nx := N, ct := N, bk := u1 D } σ2 H2)
    (done : ∀ s σ' H' Ho', Same Ho Ho' → I s σ' H' Ho' → (f s).run Φ → u1 D σ' H') : ForG g tb' u1 D σ J H := by
  refine ⟨fun i m σ' H' => m = xs.length - i ∧ i ≤ xs.length ∧ ∃ s Ho', Same Ho Ho' ∧ I s σ' H' Ho' ∧ (W.bind (W.forL (xs.drop i) s body) f).run Φ, ⟨xs.length, by simp, Nat.zero_le _, s0, Ho, Same.refl _, i0, hw⟩, ?_⟩
  rintro i m σ' H' ⟨rfl, hi, s, Ho', e', hI, hw⟩
  obtain ⟨rs', z', sub⟩ := hz s σ' H' Ho' hI
  have tr := T i rs' H' Ho' e' z' sub
  by_cases hlt : i < xs.length
  · refine .inr ?_
    have hxi := List.getElem?_eq_getElem hlt
    obtain ⟨go, yl⟩ := tr.1 _ hxi
    rw [drop_cons hxi] at hw
    refine ⟨go, fun σ'' H'' => ∃ s' Ho'', Same Ho Ho'' ∧ I s' σ'' H'' Ho'' ∧ (W.bind (W.forL (xs.drop (i + 1)) s' body) f).run Φ, fun σ'' H'' hN => ⟨xs.length - (i + 1), by omega, rfl, hlt, hN⟩, fun x H'' y => ?_⟩
    obtain ⟨Ho3, e3, z3, dx⟩ := yl x H'' y
    refine step _ x s σ' H'' Ho3 _ (e'.trans e3) (im _ _ _ _ _ _ hI e3 z3) dx ?_
    exact W.mono _ _ _ (fun s' hs' σ4 H4 Ho4 e4 hI4 => ⟨s', Ho4, (e'.trans e3).trans e4, hI4, hs'⟩) (show (body xs[i] s).run (fun s' => (W.bind (W.forL (xs.drop (i + 1)) s' body) f).run Φ) from hw)
  · have e : i = xs.length := by omega
    subst e
    rw [List.drop_length] at hw
    exact .inl ⟨tr.2 (Nat.le_refl _), done s σ' H' Ho' e' hI hw⟩
theorem y_forC {S ρ : Type} {J : It} {xs : List α} {s0 : S} {body : α → S → W (Ctl ρ S)} {f : S → W ρ} {Φ : ρ → Prop} (T : Trn K r0 J xs Ho) (hw : (W.bind (W.forC xs s0 body) fun c => W.after c f).run Φ) (I : S → L2.St → Hp → Hp → Prop) (i0 : I s0 σ H Ho)
    (hz : ∀ s σ' H' Ho', I s σ' H' Ho' → ∃ rs', Zs rs' H' Ho' ∧ ∀ r ∈ r0, r ∈ rs')
    (im : ∀ s σ' H' Ho' H'' Ho'', I s σ' H' Ho' → Same Ho' Ho'' → (∀ rs, Zs rs H' Ho' → Zs rs H'' Ho'') → I s σ' H'' Ho'')
    (step : ∀ a x s σ' H' Ho' (N B : L2.St → Hp → Prop), Same Ho Ho' → I s σ' H' Ho' → Z.D K Ho' x a → (body a s).run (CtlP (fun s' => ∀ σ'' H'' Ho'', Same Ho' Ho'' → I s' σ'' H'' Ho'' → N σ'' H'') (fun s' => ∀ σ'' H'' Ho'', Same Ho' Ho'' → I s' σ'' H'' Ho'' → B σ'' H'') Φ) → g x σ' H' fun σ2 H2 => tb' { D with nx := N, ct := N, bk := B } σ2 H2)
    (done : ∀ s σ' H' Ho', Same Ho Ho' → I s σ' H' Ho' → (f s).run Φ → u1 D σ' H') : ForG g tb' u1 D σ J H := by
  refine ⟨fun i m σ' H' => m = xs.length - i ∧ i ≤ xs.length ∧ ∃ s Ho', Same Ho Ho' ∧ I s σ' H' Ho' ∧ (W.bind (W.forC (xs.drop i) s body) fun c => W.after c f).run Φ, ⟨xs.length, by simp, Nat.zero_le _, s0, Ho, Same.refl _, i0, hw⟩, ?_⟩
  rintro i m σ' H' ⟨rfl, hi, s, Ho', e', hI, hw⟩
  obtain ⟨rs', z', sub⟩ := hz s σ' H' Ho' hI
  have tr := T i rs' H' Ho' e' z' sub
  by_cases hlt : i < xs.length
  · refine .inr ?_
    have hxi := List.getElem?_eq_getElem hlt
    obtain ⟨go, yl⟩ := tr.1 _ hxi
    rw [drop_cons hxi] at hw
    refine ⟨go, fun σ'' H'' => ∃ s' Ho'', Same Ho Ho'' ∧ I s' σ'' H'' Ho'' ∧ (W.bind (W.forC (xs.drop (i + 1)) s' body) fun c => W.after c f).run Φ, fun σ'' H'' hN => ⟨xs.length - (i + 1), by omega, rfl, hlt, hN⟩, fun x H'' y => ?_⟩
    obtain ⟨Ho3, e3, z3, dx⟩ := yl x H'' y
    refine step _ x s σ' H'' Ho3 _ (u1 D) (e'.trans e3) (im _ _ _ _ _ _ hI e3 z3) dx ?_
    refine W.mono _ _ _ (fun c hc => ?_) (show (body xs[i] s).run _ from hw)
    cases c with
    | nx s' => exact fun σ4 H4 Ho4 e4 hI4 => ⟨s', Ho4, (e'.trans e3).trans e4, hI4, hc⟩
    | bk s' => exact fun σ4 H4 Ho4 e4 hI4 => done s' σ4 H4 Ho4 ((e'.trans e3).trans e4) hI4 hc
    | rt r => exact hc
  · have e : i = xs.length := by omega
    subst e
    rw [List.drop_length] at hw
    exact .inl ⟨tr.2 (Nat.le_refl _), done s σ' H' Ho' e' hI hw⟩
theorem y_while {S ρ : Type} {s0 : S} {body : S → W (Ctl ρ S)} {f : S → W ρ} {Φ : ρ → Prop} (hw : (W.bind (W.whileL s0 body) fun c => W.after c f).run Φ) (I : S → L2.St → Hp → Hp → Prop) (i0 : I s0 σ H Ho)
    (step : ∀ s σ' H' Ho' (N B : L2.St → Hp → Prop) (E : (L2.St → Hp → Prop) → Prop), E N → Same Ho Ho' → I s σ' H' Ho' → (body s).run (CtlP (fun s' => ∀ σ'' H'' Ho'', Same Ho' Ho'' → I s' σ'' H'' Ho'' → N σ'' H'') (fun s' => ∀ σ'' H'' Ho'', Same Ho' Ho'' → I s' σ'' H'' Ho'' → B σ'' H'') Φ) →
      tt σ' H' fun b H1 => if b = true then ∃ N, E N ∧ tb' { D with nx := N, ct := N, bk := B } σ' H1 else B σ' H1)
    (done : ∀ s σ' H' Ho', Same Ho Ho' → I s σ' H' Ho' → (f s).run Φ → u1 D σ' H') : tSeq (tWhile tt tb') u1 D σ H := by
  obtain ⟨n, hw⟩ := hw
  refine ⟨fun m σ' H' => ∃ s Ho', Same Ho Ho' ∧ I s σ' H' Ho' ∧ (W.bind (W.whileN m s body) fun c => W.after c f).run Φ, ⟨n, s0, Ho, Same.refl _, i0, hw⟩, ?_⟩
  rintro m σ' H' ⟨s, Ho', e', hI, hw⟩
  cases m with
  | zero => exact hw.elim
  | succ m =>
    refine step s σ' H' Ho' (fun σ'' H'' => ∃ s' Ho'', Same Ho Ho'' ∧ I s' σ'' H'' Ho'' ∧ (W.bind (W.whileN m s' body) fun c => W.after c f).run Φ) (u1 D) (fun N => ∀ σ' H', N σ' H' → ∃ m', m' < m + 1 ∧ ∃ s Ho', Same Ho Ho' ∧ I s σ' H' Ho' ∧ (W.bind (W.whileN m' s body) fun c => W.after c f).run Φ) (fun σ2 H2 h2 => ⟨m, Nat.lt_succ_self _, h2⟩) e' hI ?_
    refine W.mono _ _ _ (fun c hc => ?_) (show (body s).run _ from hw)
    cases c with
    | nx s' => exact fun σ4 H4 Ho4 e4 hI4 => ⟨s', Ho4, e'.trans e4, hI4, hc⟩
    | bk s' => exact fun σ4 H4 Ho4 e4 hI4 => done s' σ4 H4 Ho4 (e'.trans e4) hI4 hc
    | rt r => exact hc
end
end Z

/-! # Y3: targets, comprehensions, joins, errors, built-ins -/
namespace Z
open PySem PySem.Spec PyProof.Rows L2
section
variable {K : PySem.W.Frag} {rs r0 : List (Addr × HO)} {σ : L2.St} {H Ho : Hp} {ta tb tc te tl : TE} {tt tu : TT} {α β γ : Type} [Py α] [Py β] {p : Addr} {Φ : γ → Prop} {Q : VK} {v u : V}
/-! ### targets -/
theorem y_gname {i : Nat} {x : V} {σ σ' : L2.St} {Q : L2.St → Hp → Prop} (hs : σ.set i (some x) = σ') (h : Q σ' H) : gName i x σ H Q := by
  show Q _ H
  rw [hs]
  exact h
theorem y_gt2 {i j : Nat} {x : V} {σ : L2.St} {Q : L2.St → Hp → Prop} {a : α × β} (d : D K Ho x a) (z : Zs rs H Ho) (k : ∀ v u, D K Ho v a.1 → D K Ho u a.2 → Q ((σ.set i (some v)).set j (some u)) H) : gTup K 2 (gCons (gName i) (gCons (gName j) gNil)) x σ H Q := by
  cases d with
  | tup hs ha =>
    cases ha with
    | cons h1 h2 =>
      cases h2 with
      | cons h2 h3 =>
        cases h3
        exact ⟨_, _, rfl, SqT.of (z.le _ _ hs), rfl, _, _, rfl, _, _, rfl, rfl, k _ _ h1 h2⟩
theorem y_gt3 {δ : Type} [Py δ] {i j l : Nat} {x : V} {σ : L2.St} {Q : L2.St → Hp → Prop} {a : P3 α β δ} (d : D K Ho x a) (z : Zs rs H Ho) (k : ∀ v u w, D K Ho v a.a → D K Ho u a.b → D K Ho w a.c → Q (((σ.set i (some v)).set j (some u)).set l (some w)) H) :
    gTup K 3 (gCons (gName i) (gCons (gName j) (gCons (gName l) gNil))) x σ H Q := by
  cases d with
  | tup hs ha =>
    cases ha with
    | cons h1 h2 =>
      cases h2 with
      | cons h2 h3 =>
        cases h3 with
        | cons h3 h4 =>
          cases h4
          exact ⟨_, _, rfl, SqT.of (z.le _ _ hs), rfl, _, _, rfl, _, _, rfl, _, _, rfl, rfl, k _ _ _ h1 h2 h3⟩
theorem y_gt4 {δ ε : Type} [Py δ] [Py ε] {i j l m : Nat} {x : V} {σ : L2.St} {Q : L2.St → Hp → Prop} {a : P4 α β δ ε} (d : D K Ho x a) (z : Zs rs H Ho) (k : ∀ v u w t, D K Ho v a.a → D K Ho u a.b → D K Ho w a.c → D K Ho t a.d → Q ((((σ.set i (some v)).set j (some u)).set l (some w)).set m (some t)) H) :
    gTup K 4 (gCons (gName i) (gCons (gName j) (gCons (gName l) (gCons (gName m) gNil)))) x σ H Q := by
  cases d with
  | tup hs ha =>
    cases ha with
    | cons h1 h2 =>
      cases h2 with
      | cons h2 h3 =>
        cases h3 with
        | cons h3 h4 =>
          cases h4 with
          | cons h4 h5 =>
            cases h5
            exact ⟨_, _, rfl, SqT.of (z.le _ _ hs), rfl, _, _, rfl, _, _, rfl, _, _, rfl, _, _, rfl, rfl, k _ _ _ _ h1 h2 h3 h4⟩
/-! ### comprehensions -/
def comp {α β : Type} : List α → List β → (α → W Bool) → (α → W β) → W (List β)
  | [], acc, _, _ => W.ret acc
  | x :: xs, acc, t, f => W.bind (t x) fun b => W.ite b (W.bind (f x) fun y => comp xs (acc ++ [y]) t f) (comp xs acc t f)
def compG {α β : Type} (xs : List α) (t : α → W Bool) (f : α → W β) : W (List β) := W.guard (xs.length ≤ sizeLine) (comp xs [] t f)
/-- with a state -/
def compS {α β S : Type} : List α → List β → S → (α → S → W (Option β × S)) → W (List β × S)
  | [], acc, s, _ => W.ret (acc, s)
  | x :: xs, acc, s, f => W.bind (f x s) fun r => match r.1 with
    | none => compS xs acc r.2 f
    | some y => compS xs (acc ++ [y]) r.2 f
def compSG {α β S : Type} (xs : List α) (s : S) (f : α → S → W (Option β × S)) : W (List β × S) := W.guard (xs.length ≤ sizeLine) (compS xs [] s f)
def LcG (g : TG) (tt : TT) (te : TE) (vs : List Nat) (σ : L2.St) (Q : VK) (J : It) (H1 : Hp) : Prop := ∀ D, H1 D = none → ∃ W : Nat → Nat → Hp → Prop, (∃ m, W 0 m (upd H1 D (.lst []))) ∧ ∀ i m H, W i m H →
  (J.stop i H ∧ Q (.ref D) H) ∨ (J.go i H ∧ ∃ Nx : Hp → Prop, (∀ H', Nx H' → ∃ m', m' < m ∧ W (i + 1) m' H') ∧ ∀ x H', J.yld i H x H' → g x (wipe σ vs) H' fun σ2 H2 => wipe σ2 vs = wipe σ vs ∧ tt σ2 H2 fun b H3 =>
    if b = true then te σ2 H3 fun y H4 => ∃ acc, H4 D = some (.lst acc) ∧ acc.length < sizeLine ∧ Nx (upd H4 D (.lst (acc ++ [y]))) else Nx H3)
variable {g : TG} {vs : List Nat} {wi : TI}
theorem y_lc (k : wi σ H fun J H1 => LcG g tt te vs σ Q J H1) : tLc wi g tt te vs σ H Q := k
theorem y_yes {QB : Bool → Hp → Prop} (k : QB true H) : tYes σ H QB := k
theorem y_lcG {J : It} {xs : List α} {ct : α → W Bool} {cf : α → W β} {f : List β → W γ} (z : Zs rs H Ho) (hr : ∀ r ∈ r0, r ∈ rs) (T : Trn K r0 J xs Ho) (hw : (W.bind (compG xs ct cf) f).run Φ)
    (hx : ∀ (r : Addr × HO) a x H' Ho' (N : VK) (N' : Hp → Prop), Same Ho Ho' → Zs (r :: rs) H' Ho' → Z.D K Ho' x a →
      (W.bind (ct a) fun b => W.ite b (cf a) ⟨fun Ψ => ∀ H'' Ho'', Same Ho' Ho'' → Zs (r :: rs) H'' Ho'' → N' H'', fun _ _ _ q => q⟩).run (fun y => ∀ w H'' Ho'', Same Ho' Ho'' → Zs (r :: rs) H'' Ho'' → Z.D K Ho'' w y → N w H'') →
      g x (wipe σ vs) H' fun σ2 H2 => wipe σ2 vs = wipe σ vs ∧ tt σ2 H2 fun b H3 => if b = true then te σ2 H3 N else N' H3)
    (k : ∀ ys H' Ho', Same Ho Ho' → (f ys).run Φ → ∀ p ws, Zs ((p, .lst ws) :: rs) H' Ho' → DL K Ho' ws ys → Q (.ref p) H') : LcG g tt te vs σ Q J H := by
  intro Dn hD
  obtain ⟨hsz, hw⟩ := hw
  refine ⟨fun i m H => m = xs.length - i ∧ i ≤ xs.length ∧ ∃ (Ho' : Hp) (acc : List β) (acs : List V), Same Ho Ho' ∧ Zs ((Dn, .lst acs) :: rs) H Ho' ∧ DL K Ho' acs acc ∧ acs.length ≤ i ∧ (comp (xs.drop i) acc ct cf).run fun ys => (f ys).run Φ,
    ⟨xs.length, by simp, Nat.zero_le _, Ho, [], [], Same.refl _, z.root hD, .nil, Nat.le_refl _, hw⟩, ?_⟩
  rintro i m H ⟨rfl, hi, Ho', acc, acs, e', z', da, la, hw⟩
  have tr := T i _ H Ho' e' z' fun r hrr => List.mem_cons_of_mem _ (hr r hrr)
  by_cases hlt : i < xs.length
  · refine .inr ?_
    have hxi := List.getElem?_eq_getElem hlt
    obtain ⟨go, yl⟩ := tr.1 _ hxi
    refine ⟨go, fun H' => ∃ (Ho' : Hp) (acc : List β) (acs : List V), Same Ho Ho' ∧ Zs ((Dn, .lst acs) :: rs) H' Ho' ∧ DL K Ho' acs acc ∧ acs.length ≤ i + 1 ∧ (comp (xs.drop (i + 1)) acc ct cf).run fun ys => (f ys).run Φ, fun H' hN => ⟨xs.length - (i + 1), by omega, rfl, hlt, hN⟩, fun x H' y => ?_⟩
    obtain ⟨Ho2, e2, z2, dx⟩ := yl x H' y
    rw [drop_cons hxi] at hw
    refine hx (Dn, .lst acs) _ x H' Ho2 _ _ (e'.trans e2) (z2 _ z') dx ?_
    have hw : (ct xs[i]).run fun b => (W.ite b (W.bind (cf xs[i]) fun y => comp (xs.drop (i + 1)) (acc ++ [y]) ct cf) (comp (xs.drop (i + 1)) acc ct cf)).run fun ys => (f ys).run Φ := hw
    show (ct xs[i]).run _
    refine W.mono _ _ _ (fun b hb => ?_) hw
    refine ⟨fun e => ?_, fun e H'' Ho'' e3 z3 => ?_⟩
    · refine W.mono _ _ _ (fun y hy w H'' Ho'' e3 z3 dw => ?_) (hb.1 e)
      refine ⟨acs, z3.head, by omega, Ho'', acc ++ [y], acs ++ [w], (e'.trans e2).trans e3, z3.put, (DL.mo (DL.mo da e2) e3).push dw, ?_, hy⟩
      rw [List.length_append]
      exact Nat.succ_le_succ la
    · exact ⟨Ho'', acc, acs, (e'.trans e2).trans e3, z3, DL.mo (DL.mo da e2) e3, Nat.le_succ_of_le la, hb.2 e⟩
  · have e : i = xs.length := by omega
    subst e
    refine .inl ⟨tr.2 (Nat.le_refl _), ?_⟩
    rw [List.drop_length] at hw
    exact k acc H Ho' e' hw Dn acs z' da
theorem y_lcS {S : Type} {J : It} {xs : List α} {s0 : S} {body : α → S → W (Option β × S)} {f : List β × S → W γ} (z : Zs rs H Ho) (T : Trn K r0 J xs Ho) (hw : (W.bind (compSG xs s0 body) f).run Φ) (I : (Addr × HO) → S → Hp → Hp → Prop)
    (i0 : ∀ r H', Zs (r :: rs) H' Ho → I r s0 H' Ho)
    (iz : ∀ r s H' Ho', I r s H' Ho' → ∃ rs', Zs (r :: rs') H' Ho' ∧ ∀ q ∈ r0, q ∈ rs')
    (im : ∀ r s H' Ho' H'' Ho'', I r s H' Ho' → Same Ho' Ho'' → (∀ rs, Zs rs H' Ho' → Zs rs H'' Ho'') → I r s H'' Ho'')
    (ip : ∀ p o o' s H' Ho', NotTup o' → I (p, o) s H' Ho' → I (p, o') s (upd H' p o') Ho')
    (hx : ∀ (r : Addr × HO) a x s H' Ho' (N : VK) (N' : Hp → Prop), Same Ho Ho' → I r s H' Ho' → Z.D K Ho' x a →
      (body a s).run (fun q => match q.1 with | some y => ∀ w H'' Ho'', Same Ho' Ho'' → I r q.2 H'' Ho'' → Z.D K Ho'' w y → N w H'' | none => ∀ H'' Ho'', Same Ho' Ho'' → I r q.2 H'' Ho'' → N' H'') →
      g x (wipe σ vs) H' fun σ2 H2 => wipe σ2 vs = wipe σ vs ∧ tt σ2 H2 fun b H3 => if b = true then te σ2 H3 N else N' H3)
    (k : ∀ ys s p ws H' Ho', Same Ho Ho' → I (p, .lst ws) s H' Ho' → DL K Ho' ws ys → (f (ys, s)).run Φ → Q (.ref p) H') : LcG g tt te vs σ Q J H := by
  intro Dn hD
  obtain ⟨hsz, hw⟩ := hw
  refine ⟨fun i m H => m = xs.length - i ∧ i ≤ xs.length ∧ ∃ (Ho' : Hp) (acc : List β) (acs : List V) (s : S), Same Ho Ho' ∧ I (Dn, .lst acs) s H Ho' ∧ DL K Ho' acs acc ∧ acs.length ≤ i ∧ (compS (xs.drop i) acc s body).run fun q => (f q).run Φ,
    ⟨xs.length, by simp, Nat.zero_le _, Ho, [], [], s0, Same.refl _, i0 _ _ (z.root hD), .nil, Nat.le_refl _, hw⟩, ?_⟩
  rintro i m H ⟨rfl, hi, Ho', acc, acs, s, e', hI, da, la, hw⟩
  obtain ⟨rs', z', sub⟩ := iz _ _ _ _ hI
  have tr := T i _ H Ho' e' z' fun r hrr => List.mem_cons_of_mem _ (sub r hrr)
  by_cases hlt : i < xs.length
  · refine .inr ?_
    have hxi := List.getElem?_eq_getElem hlt
    obtain ⟨go, yl⟩ := tr.1 _ hxi
    refine ⟨go, fun H' => ∃ (Ho' : Hp) (acc : List β) (acs : List V) (s : S), Same Ho Ho' ∧ I (Dn, .lst acs) s H' Ho' ∧ DL K Ho' acs acc ∧ acs.length ≤ i + 1 ∧ (compS (xs.drop (i + 1)) acc s body).run fun q => (f q).run Φ, fun H' hN => ⟨xs.length - (i + 1), by omega, rfl, hlt, hN⟩, fun x H' y => ?_⟩
    obtain ⟨Ho2, e2, z2, dx⟩ := yl x H' y
    rw [drop_cons hxi] at hw
    refine hx (Dn, .lst acs) _ x s H' Ho2 _ _ (e'.trans e2) (im _ _ _ _ _ _ hI e2 z2) dx ?_
    refine W.mono _ _ _ (fun q hq => ?_) (show (body xs[i] s).run _ from hw)
    obtain ⟨o, s'⟩ := q
    cases o with
    | some y =>
      intro w H'' Ho'' e3 hI3 dw
      obtain ⟨rs3, z3, _⟩ := iz _ _ _ _ hI3
      refine ⟨acs, z3.head, by omega, Ho'', acc ++ [y], acs ++ [w], s', (e'.trans e2).trans e3, ip _ _ _ _ _ _ trivial hI3, (DL.mo (DL.mo da e2) e3).push dw, ?_, hq⟩
      rw [List.length_append]
      exact Nat.succ_le_succ la
    | none =>
      intro H'' Ho'' e3 hI3
      exact ⟨Ho'', acc, acs, s', (e'.trans e2).trans e3, hI3, DL.mo (DL.mo da e2) e3, Nat.le_succ_of_le la, hq⟩
  · have e : i = xs.length := by omega
    subst e
    refine .inl ⟨tr.2 (Nat.le_refl _), ?_⟩
    rw [List.drop_length] at hw
    exact k acc s Dn acs H Ho' e' hI da hw
/-! ### where ways meet -/
theorem y_join {ρ β : Type} {a : Bool} {c1 c2 : W β} {f : β → W γ} {X Y : Prop} {Q : ρ → Hp → Prop} (hw : (W.bind (W.ite a c1 c2) f).run Φ) (J : β → ρ → Hp → Prop)
    (h1 : a = true → (∀ r v H', J r v H' → (f r).run Φ → Q v H') → (W.bind c1 f).run Φ → X)
    (h2 : a = false → (∀ r v H', J r v H' → (f r).run Φ → Q v H') → (W.bind c2 f).run Φ → Y)
    (k : ∀ r v H', J r v H' → (f r).run Φ → Q v H') : if a = true then X else Y := by
  cases a with
  | true => exact iteT (h1 rfl k (hw.1 rfl))
  | false => exact iteF (h2 rfl k (hw.2 rfl))
/-- both ways are total and lay nothing down -/
theorem y_andP {a : Bool} (b : Bool) {X : Prop} {Q : Bool → Hp → Prop} (h : a = true → Q b H → X) (k : Q (a && b) H) : if a = true then X else Q false H := by
  cases a with
  | true => exact iteT (h rfl k)
  | false => exact iteF k
theorem y_orP {a : Bool} (b : Bool) {X : Prop} {Q : Bool → Hp → Prop} (h : a = false → Q b H → X) (k : Q (a || b) H) : if a = true then Q true H else X := by
  cases a with
  | true => exact iteT k
  | false => exact iteF (h rfl k)
theorem y_andPV {a : Bool} (b : Bool) {X : Prop} (h : a = true → Q (.bl b) H → X) (k : Q (.bl (a && b)) H) : if a = true then X else Q (.bl false) H := by
  cases a with
  | true => exact iteT (h rfl k)
  | false => exact iteF k
theorem y_orPV {a : Bool} (b : Bool) {X : Prop} (h : a = false → Q (.bl b) H → X) (k : Q (.bl (a || b)) H) : if a = true then Q (.bl true) H else X := by
  cases a with
  | true => exact iteT k
  | false => exact iteF (h rfl k)
/-! ### errors -/
def ExP {α : Type} (N : α → Prop) (R : Er → Prop) : Ex α → Prop
  | .ok a => N a
  | .er e => R e
theorem exP_ok {α : Type} {N : α → Prop} {R : Er → Prop} {a : α} (h : ExP N R (.ok a)) : N a := h
theorem exP_er {α : Type} {N : α → Prop} {R : Er → Prop} {e : Er} (h : ExP N R (.er e)) : R e := h
def W.exm {α β : Type} (c : W (Ex α)) (f : α → W β) (g : Er → W β) : W β := W.bind c fun r => match r with
  | .ok a => f a
  | .er e => g e
/-- where nothing may be raised -/
def W.sure {α : Type} (c : W (Ex α)) : W α := W.exm c W.ret fun _ => W.bad
theorem run_exm {α β : Type} {c : W (Ex α)} {f : α → W β} {g : Er → W β} {Φ : β → Prop} (h : (W.exm c f g).run Φ) : c.run (ExP (fun a => (f a).run Φ) fun e => (g e).run Φ) :=
  W.mono _ _ _ (fun r hr => by cases r with | ok a => exact hr | er e => exact hr) h
theorem exm_run {α β : Type} {c : W (Ex α)} {f : α → W β} {g : Er → W β} {Φ : β → Prop} (h : c.run (ExP (fun a => (f a).run Φ) fun e => (g e).run Φ)) : (W.exm c f g).run Φ :=
  c.mono (ExP (fun a => (f a).run Φ) fun e => (g e).run Φ) _ (fun r hr => by cases r with | ok a => exact hr | er e => exact hr) h
theorem run_sure {α β : Type} {c : W (Ex α)} {f : α → W β} {Φ : β → Prop} (h : (W.bind (W.sure c) f).run Φ) : c.run (ExP (fun a => (f a).run Φ) fun _ => False) := run_exm h
theorem y_callS {sp : Sp} {E : L2.St → XK} {ts : TA} (k : ts σ H fun vs H1 => sp vs H1 Q (E σ)) : tCallS sp E ts σ H Q := k
def tRaise (C : Addr) (Wx : WX) : TS := fun _ σ H => Wx (.ref C) none σ H
theorem y_raise {C : Addr} {Wx : WX} {w : TS} {D : Ends} (k : Wx (.ref C) none σ H) : tSeq (tRaise C Wx) w D σ H := k
def tTryAs (K : PySem.W.Frag) (c : Value) (i : Nat) (tb : WX → TS) (ts : Addr → Value → Option Addr → TS) (Wout : WX) : TS := fun D σ H => tb (wAs K c i ts Wout D) D σ H
def tTryOnly (K : PySem.W.Frag) (c : Value) (tb : WX → TS) (ts : Addr → Value → Option Addr → TS) (Wout : WX) : TS := fun D σ H => tb (wOnly K c ts Wout D) D σ H
variable {cl : Nat → Addr} {Wout : WX} {D : Ends} {u1 : TS} {i : Nat}
theorem y_tryJ {S : Type} {c : Value} {cb : W (Ex S)} {cs : Er → W S} {f : S → W γ} {tb : WX → TS} {ts : Addr → Value → Option Addr → TS} {sub : Nat → Bool} (σ' : Addr → L2.St) (hm : ∀ n, PySem.W.exmOne K (.ref (cl n)) c = some (sub n)) (z : Zs rs H Ho)
    (hw : (W.bind (W.exm cb W.ret fun e => W.guard (sub e.cls = true) (cs e)) f).run Φ) (J : S → L2.St → Hp → Hp → Prop) (hσ : ∀ a, σ.set i (some (.ref a)) = σ' a)
    (hb : ∀ (Wx : WX) (N : L2.St → Hp → Prop), cb.run (ExP (fun s => ∀ σ' H'' Ho'', Same Ho Ho'' → J s σ' H'' Ho'' → N σ' H'') fun e => ∀ H' Ho', Same Ho Ho' → Zs rs H' Ho' → Wx (.ref (cl e.cls)) none σ H') → tb Wx { D with nx := N } σ H)
    (hs : ∀ e a H' Ho' (N : L2.St → Hp → Prop), Same Ho Ho' → Zs rs H' Ho' → H' a = none → (cs e).run (fun s => ∀ σ' H'' Ho'', Same Ho' Ho'' → J s σ' H'' Ho'' → N σ' H'') →
      ts a (.ref (cl e.cls)) none { nx := fun σ' H' => N (σ'.set i none) H', rt := D.rt, bk := fun σ' H' => D.bk (σ'.set i none) H', ct := fun σ' H' => D.ct (σ'.set i none) H' } (σ' a) H')
    (k : ∀ s σ' H' Ho', Same Ho Ho' → J s σ' H' Ho' → (f s).run Φ → u1 D σ' H') : tSeq (tTryAs K c i tb ts Wout) u1 D σ H := by
  refine hb _ _ (W.mono _ _ _ (fun r hr => ?_) (run_exm hw))
  cases r with
  | ok s => exact fun σ' H' Ho' e j => k s σ' H' Ho' e j hr
  | er r =>
    refine fun H' Ho' e z' => ⟨true, by rw [hm, hr.1], fun _ a ha => ?_, fun q => nomatch q⟩
    rw [hσ]
    exact hs r a H' Ho' (u1 D) e z' ha (W.mono _ _ _ (fun s hs σ' H'' Ho'' e'' j => k s σ' H'' Ho'' (e.trans e'') j hs) hr.2)
theorem y_tryOJ {S : Type} {c : Value} {cb : W (Ex S)} {cs : Er → W S} {f : S → W γ} {tb : WX → TS} {ts : Addr → Value → Option Addr → TS} {sub : Nat → Bool} (hm : ∀ n, PySem.W.exmOne K (.ref (cl n)) c = some (sub n)) (z : Zs rs H Ho)
    (hw : (W.bind (W.exm cb W.ret fun e => W.guard (sub e.cls = true) (cs e)) f).run Φ) (J : S → L2.St → Hp → Hp → Prop)
    (hb : ∀ (Wx : WX) (N : L2.St → Hp → Prop), cb.run (ExP (fun s => ∀ σ' H'' Ho'', Same Ho Ho'' → J s σ' H'' Ho'' → N σ' H'') fun e => ∀ H' Ho', Same Ho Ho' → Zs rs H' Ho' → Wx (.ref (cl e.cls)) none σ H') → tb Wx { D with nx := N } σ H)
    (hs : ∀ e a H' Ho' (N : L2.St → Hp → Prop), Same Ho Ho' → Zs rs H' Ho' → H' a = none → (cs e).run (fun s => ∀ σ' H'' Ho'', Same Ho' Ho'' → J s σ' H'' Ho'' → N σ' H'') → ts a (.ref (cl e.cls)) none { D with nx := N } σ H')
    (k : ∀ s σ' H' Ho', Same Ho Ho' → J s σ' H' Ho' → (f s).run Φ → u1 D σ' H') : tSeq (tTryOnly K c tb ts Wout) u1 D σ H := by
  refine hb _ _ (W.mono _ _ _ (fun r hr => ?_) (run_exm hw))
  cases r with
  | ok s => exact fun σ' H' Ho' e j => k s σ' H' Ho' e j hr
  | er r =>
    refine fun H' Ho' e z' => ⟨true, by rw [hm, hr.1], fun _ a ha => ?_, fun q => nomatch q⟩
    exact hs r a H' Ho' (u1 D) e z' ha (W.mono _ _ _ (fun s hs σ' H'' Ho'' e'' j => k s σ' H'' Ho'' (e.trans e'') j hs) hr.2)
/-! ### built-ins by values -/
def rLenZ (K : PySem.W.Frag) : List V → Hp → VK → Prop := fun xs H Q => ∃ p ys, xs = [.ref p] ∧ (SqL K H p ys ∨ SqT K H p ys) ∧ Q (.int ys.length) H
def rListZ (K : PySem.W.Frag) : List V → Hp → VK → Prop := fun xs H Q => ∃ p ys, xs = [.ref p] ∧ (SqL K H p ys ∨ SqT K H p ys) ∧ ∀ l, H l = none → Q (.ref l) (upd H l (.lst ys))
theorem y_len {xs : List α} (d : LV K rs Ho v xs) (z : Zs rs H Ho) (k : Q (.int (xs.length : Int)) H) : rLenZ K [v] H Q := by
  obtain ⟨p, vs, rfl, d, s⟩ := LV.rd d z
  refine ⟨p, vs, rfl, .inl s, ?_⟩
  rw [d.len]
  exact k
theorem y_list {xs : List α} (d : LV K rs Ho v xs) (z : Zs rs H Ho) (k : ∀ H' p ws, Zs ((p, .lst ws) :: rs) H' Ho → DL K Ho ws xs → Q (.ref p) H') : rListZ K [v] H Q := by
  obtain ⟨p, vs, rfl, d, s⟩ := LV.rd d z
  exact ⟨p, vs, rfl, .inl s, fun q hq => k _ q _ (z.root hq) d⟩
theorem y_abs {a : Int} (k : Q (.int (if a < 0 then -a else a)) H) : (fun xs H Q => ∃ i, xs = [.int i] ∧ Q (.int (if i < 0 then -i else i)) H : List V → Hp → VK → Prop) [.int a] H Q := ⟨a, rfl, k⟩
theorem y_intB {a : Bool} (k : Q (.int (if a then 1 else 0)) H) : (fun xs H Q => (∃ i, xs = [.int i] ∧ Q (.int i) H) ∨ ∃ k, xs = [.bl k] ∧ Q (.int (if k then 1 else 0)) H : List V → Hp → VK → Prop) [.bl a] H Q := .inr ⟨a, rfl, k⟩
theorem y_min2 {a b : Int} (k : Q (.int (if b < a then b else a)) H) : (fun xs H Q => ∃ i j, xs = [.int i, .int j] ∧ Q (.int (if j < i then j else i)) H : List V → Hp → VK → Prop) [.int a, .int b] H Q := ⟨a, b, rfl, k⟩
theorem y_max2 {a b : Int} (k : Q (.int (if b > a then b else a)) H) : (fun xs H Q => ∃ i j, xs = [.int i, .int j] ∧ Q (.int (if j > i then j else i)) H : List V → Hp → VK → Prop) [.int a, .int b] H Q := ⟨a, b, rfl, k⟩
theorem y_all {xs : List Bool} (d : LV K rs Ho v xs) (z : Zs rs H Ho) (k : Q (.bl (xs.all id)) H) : rAll K [v] H Q := by
  obtain ⟨p, vs, rfl, d, s⟩ := LV.rd d z
  rw [dl_bools d] at s
  exact ⟨p, xs, rfl, s, k⟩
theorem y_any {xs : List Bool} (d : LV K rs Ho v xs) (z : Zs rs H Ho) (k : Q (.bl (xs.any id)) H) : rAny K [v] H Q := by
  obtain ⟨p, vs, rfl, d, s⟩ := LV.rd d z
  rw [dl_bools d] at s
  exact ⟨p, xs, rfl, s, k⟩
theorem y_sum {xs : List Int} (d : LV K rs Ho v xs) (z : Zs rs H Ho) (k : Q (.int xs.sum) H) : rSum K [v] H Q := by
  obtain ⟨p, vs, rfl, d, s⟩ := LV.rd d z
  rw [dl_ints d] at s
  exact ⟨p, xs, rfl, s, k⟩
def srtI (xs : List Int) : List Int := xs.mergeSort fun a b => decide (a ≤ b)
theorem srtI_perm (xs : List Int) : (srtI xs).Perm xs := List.mergeSort_perm xs _
theorem srtI_srt (xs : List Int) : (srtI xs).Pairwise (· ≤ ·) := by
  have h := List.pairwise_mergeSort (le := fun a b : Int => decide (a ≤ b)) (fun a b c h1 h2 => by simp at h1 h2 ⊢; omega) (fun a b => by simp; omega) xs
  exact h.imp fun h => of_decide_eq_true h
theorem srtI_of {xs ys : List Int} (h : ys.Perm xs) (hs : ys.Pairwise (· ≤ ·)) : ys = srtI xs :=
  List.Perm.eq_of_pairwise (le := (· ≤ ·)) (fun a b _ _ h1 h2 => Int.le_antisymm h1 h2) hs (srtI_srt xs) (h.trans (srtI_perm xs).symm)
theorem y_sortI {xs : List Int} (d : LV K rs Ho v xs) (z : Zs rs H Ho) (k : ∀ H' p ws, Zs ((p, .lst ws) :: rs) H' Ho → DL K Ho ws (srtI xs) → Q (.ref p) H') : rSortedI K [v] H Q := by
  obtain ⟨p, vs, rfl, d, s⟩ := LV.rd d z
  rw [dl_ints d] at s
  refine ⟨p, xs, rfl, s, fun ns' q hp hs hq => ?_⟩
  rw [srtI_of hp hs]
  exact k _ q _ (z.root hq) ints_dl
def mxD (ns : List Int) (d : Int) : Int := match ns with
  | [] => d
  | x :: xs => xs.foldl (fun a y => if decide (a < y) = true then y else a) x
def mnD (ns : List Int) (d : Int) : Int := match ns with
  | [] => d
  | x :: xs => xs.foldl (fun a y => if decide (y < a) = true then y else a) x
def rMxD (K : PySem.W.Frag) : List V → List V → Hp → VK → Prop := fun vs zs H Q => ∃ (a : Addr) (ns : List Int) (d : Int), vs = [V.ref a] ∧ zs = [V.int d] ∧ SqL K H a (ns.map V.int) ∧ Q (.int (mxD ns d)) H
def rMnD (K : PySem.W.Frag) : List V → List V → Hp → VK → Prop := fun vs zs H Q => ∃ (a : Addr) (ns : List Int) (d : Int), vs = [V.ref a] ∧ zs = [V.int d] ∧ SqL K H a (ns.map V.int) ∧ Q (.int (mnD ns d)) H
theorem hold_ints {h : Heap} : ∀ {ns : List Int} {us : List Value}, Vals (ns.map V.int) us → PySem.W.HoldAll h us ns
  | [], us, r => by cases r; exact PySem.W.HoldAll.nil
  | n :: ns, us, r => by
    cases r with
    | cons r1 r2 =>
      obtain ⟨t, rfl⟩ := r1
      exact PySem.W.HoldAll.cons (PySem.W.holds_int n t) (hold_ints r2)
theorem zmxD {X : Cx} {K : PySem.W.Frag} (hK : X.K = K) (hc : X.calm = true) (hu : X.A.units + 64 < cLine) : CallRK X (.builtin "max") [Str.ofString "default"] (rMxD K) := by
  subst hK
  intro pins s σ H vs zs us ws Q I r rz h
  obtain ⟨a, ns, d, rfl, rfl, hs, q⟩ := h
  obtain rfl := Vals.ref1 r
  obtain ⟨w1, rfl, t, rfl⟩ := vals1 rz
  obtain ⟨its, rv, hl, hz⟩ := I.list hs
  refine PySem.W.max_list_datum_default (α := Int) (I.ok.hd hc) hl.isList (hold_ints rv) (by show X.A.units + 1 + 0 < cLine; omega) (fun e h' tk k => ⟨.int d, H, I.kept (t' := tk) k, ⟨t, rfl⟩, ?_⟩) fun y ys i v h' tk e hi hh k => ?_
  · subst e; exact q
  · subst e
    obtain ⟨t', rfl⟩ := PySem.W.int_of_holds hh
    exact ⟨.int _, H, I.kept (t' := tk) k, ⟨t', rfl⟩, q⟩
theorem zmnD {X : Cx} {K : PySem.W.Frag} (hK : X.K = K) (hc : X.calm = true) (hu : X.A.units + 64 < cLine) : CallRK X (.builtin "min") [Str.ofString "default"] (rMnD K) := by
  subst hK
  intro pins s σ H vs zs us ws Q I r rz h
  obtain ⟨a, ns, d, rfl, rfl, hs, q⟩ := h
  obtain rfl := Vals.ref1 r
  obtain ⟨w1, rfl, t, rfl⟩ := vals1 rz
  obtain ⟨its, rv, hl, hz⟩ := I.list hs
  refine PySem.W.min_list_datum_default (α := Int) (I.ok.hd hc) hl.isList (hold_ints rv) (by show X.A.units + 1 + 0 < cLine; omega) (fun e h' tk k => ⟨.int d, H, I.kept (t' := tk) k, ⟨t, rfl⟩, ?_⟩) fun y ys i v h' tk e hi hh k => ?_
  · subst e; exact q
  · subst e
    obtain ⟨t', rfl⟩ := PySem.W.int_of_holds hh
    exact ⟨.int _, H, I.kept (t' := tk) k, ⟨t', rfl⟩, q⟩
theorem y_ckw {r : List V → List V → Hp → VK → Prop} {ts tk : TA} (k : ts σ H fun vs H1 => tk σ H1 fun zs H2 => r vs zs H2 Q) : tCKw r ts tk σ H Q := k
theorem y_mxD {xs : List Int} {a : Int} (d : LV K rs Ho v xs) (z : Zs rs H Ho) (k : Q (.int (mxD xs a)) H) : rMxD K [v] [.int a] H Q := by
  obtain ⟨p, vs, rfl, d, s⟩ := LV.rd d z
  rw [dl_ints d] at s
  exact ⟨p, xs, a, rfl, rfl, s, k⟩
theorem y_mnD {xs : List Int} {a : Int} (d : LV K rs Ho v xs) (z : Zs rs H Ho) (k : Q (.int (mnD xs a)) H) : rMnD K [v] [.int a] H Q := by
  obtain ⟨p, vs, rfl, d, s⟩ := LV.rd d z
  rw [dl_ints d] at s
  exact ⟨p, xs, a, rfl, rfl, s, k⟩
/-- min, max of a list that is not empty -/
def mxL (xs : List Int) : W Int := W.guard (0 < xs.length) (W.ret (mxD xs 0))
def mnL (xs : List Int) : W Int := W.guard (0 < xs.length) (W.ret (mnD xs 0))
theorem mxF : ∀ (xs : List Int) (x : Int), (xs.foldl (fun a y => if decide (a < y) = true then y else a) x) ∈ x :: xs ∧ ∀ y ∈ x :: xs, y ≤ xs.foldl (fun a y => if decide (a < y) = true then y else a) x
  | [], x => by simp
  | y :: ys, x => by
    have ih := mxF ys (if decide (x < y) = true then y else x)
    simp only [List.foldl_cons]
    generalize hr : ys.foldl (fun a y => if decide (a < y) = true then y else a) (if decide (x < y) = true then y else x) = r at ih
    obtain ⟨h1, h2⟩ := ih
    by_cases c : x < y
    · simp only [decide_eq_true c, if_true] at h1 h2
      refine ⟨List.mem_cons_of_mem _ h1, fun z hz => ?_⟩
      rcases List.mem_cons.mp hz with rfl | hz
      · have := h2 y List.mem_cons_self; omega
      · exact h2 z hz
    · simp only [decide_eq_false c, Bool.false_eq_true, if_false] at h1 h2
      refine ⟨?_, fun z hz => ?_⟩
      · rcases List.mem_cons.mp h1 with h | h
        · rw [h]; exact List.mem_cons_self
        · exact List.mem_cons_of_mem _ (List.mem_cons_of_mem _ h)
      · rcases List.mem_cons.mp hz with rfl | hz
        · exact h2 _ List.mem_cons_self
        · rcases List.mem_cons.mp hz with rfl | hz
          · have := h2 x List.mem_cons_self; omega
          · exact h2 z (List.mem_cons_of_mem _ hz)
theorem mnF : ∀ (xs : List Int) (x : Int), (xs.foldl (fun a y => if decide (y < a) = true then y else a) x) ∈ x :: xs ∧ ∀ y ∈ x :: xs, xs.foldl (fun a y => if decide (y < a) = true then y else a) x ≤ y
  | [], x => by simp
  | y :: ys, x => by
    have ih := mnF ys (if decide (y < x) = true then y else x)
    simp only [List.foldl_cons]
    generalize hr : ys.foldl (fun a y => if decide (y < a) = true then y else a) (if decide (y < x) = true then y else x) = r at ih
    obtain ⟨h1, h2⟩ := ih
    by_cases c : y < x
    · simp only [decide_eq_true c, if_true] at h1 h2
      refine ⟨List.mem_cons_of_mem _ h1, fun z hz => ?_⟩
      rcases List.mem_cons.mp hz with rfl | hz
      · have := h2 y List.mem_cons_self; omega
      · exact h2 z hz
    · simp only [decide_eq_false c, Bool.false_eq_true, if_false] at h1 h2
      refine ⟨?_, fun z hz => ?_⟩
      · rcases List.mem_cons.mp h1 with h | h
        · rw [h]; exact List.mem_cons_self
        · exact List.mem_cons_of_mem _ (List.mem_cons_of_mem _ h)
      · rcases List.mem_cons.mp hz with rfl | hz
        · exact h2 _ List.mem_cons_self
        · rcases List.mem_cons.mp hz with rfl | hz
          · have := h2 x List.mem_cons_self; omega
          · exact h2 z (List.mem_cons_of_mem _ hz)
theorem y_mxL {xs : List Int} (d : LV K rs Ho v xs) (z : Zs rs H Ho) (hg : 0 < xs.length) (k : Q (.int (mxD xs 0)) H) : rMax K [v] H Q := by
  obtain ⟨p, vs, rfl, d, s⟩ := LV.rd d z
  rw [dl_ints d] at s
  refine ⟨p, xs, rfl, s, hg, fun m hm hy => ?_⟩
  cases xs with
  | nil => simp at hg
  | cons x xs =>
    have q := mxF xs x
    have e : mxD (x :: xs) 0 = m := Int.le_antisymm (hy _ q.1) (q.2 _ hm)
    rw [← e]; exact k
theorem y_mnL {xs : List Int} (d : LV K rs Ho v xs) (z : Zs rs H Ho) (hg : 0 < xs.length) (k : Q (.int (mnD xs 0)) H) : rMin K [v] H Q := by
  obtain ⟨p, vs, rfl, d, s⟩ := LV.rd d z
  rw [dl_ints d] at s
  refine ⟨p, xs, rfl, s, hg, fun m hm hy => ?_⟩
  cases xs with
  | nil => simp at hg
  | cons x xs =>
    have q := mnF xs x
    have e : mnD (x :: xs) 0 = m := Int.le_antisymm (q.2 _ hm) (hy _ q.1)
    rw [← e]; exact k
end
end Z

/-! # sorted lists of tuples of ints, any number of them -/
namespace Z
open PySem PySem.Spec PyProof.Rows L2
theorem DL.item {α : Type} [Py α] {K : PySem.W.Frag} {vs : List V} {xs : List α} {i : Nat} {v : V} {H : Hp} (h : DL K H vs xs) (e : vs[i]? = some v) : ∃ x, xs[i]? = some x ∧ D K H v x := by
  have hi : i < xs.length := by rw [← h.len]; exact (List.getElem?_eq_some_iff.mp e).1
  obtain ⟨w, ew, dw⟩ := h.get (List.getElem?_eq_getElem hi)
  rw [e] at ew
  cases ew
  exact ⟨_, List.getElem?_eq_getElem hi, dw⟩
def lexL : List Int → List Int → Bool
  | [], [] => false
  | [], _ :: _ => true
  | _ :: _, [] => false
  | x :: xs, y :: ys => if x = y then lexL xs ys else decide (x < y)
theorem lexL_asym : ∀ a b : List Int, lexL a b = true → lexL b a = false
  | [], [], h => nomatch h
  | [], _ :: _, _ => rfl
  | _ :: _, [], h => nomatch h
  | x :: xs, y :: ys, h => by
    have h : (if x = y then lexL xs ys else decide (x < y)) = true := h
    show (if y = x then lexL ys xs else decide (y < x)) = false
    by_cases e : x = y
    · rw [if_pos e] at h
      rw [if_pos e.symm]
      exact lexL_asym xs ys h
    · rw [if_neg e] at h
      rw [if_neg (fun q => e q.symm)]
      have := of_decide_eq_true h
      exact decide_eq_false (by omega)
theorem lexL_tr : ∀ a b c : List Int, lexL b a = false → lexL c b = false → lexL c a = false
  | [], b, c, _, h2 => by
    cases c with
    | nil => rfl
    | cons z zs => rfl
  | x :: xs, [], c, h1, _ => nomatch h1
  | x :: xs, y :: ys, [], _, h2 => nomatch h2
  | x :: xs, y :: ys, z :: zs, h1, h2 => by
    have h1 : (if y = x then lexL ys xs else decide (y < x)) = false := h1
    have h2 : (if z = y then lexL zs ys else decide (z < y)) = false := h2
    show (if z = x then lexL zs xs else decide (z < x)) = false
    by_cases e1 : y = x
    · subst e1
      rw [if_pos rfl] at h1
      by_cases e2 : z = y
      · rw [if_pos e2] at h2 ⊢
        exact lexL_tr xs ys zs h1 h2
      · rw [if_neg e2] at h2 ⊢
        exact h2
    · rw [if_neg e1] at h1
      have q1 := of_decide_eq_false h1
      by_cases e2 : z = y
      · subst e2
        rw [if_neg e1]; exact h1
      · rw [if_neg e2] at h2
        have q2 := of_decide_eq_false h2
        rw [if_neg (by omega)]
        exact decide_eq_false (by omega)
theorem lexL_tot : ∀ a b : List Int, lexL a b = false → lexL b a = false → a = b
  | [], [], _, _ => rfl
  | [], _ :: _, h, _ => nomatch h
  | _ :: _, [], _, h => nomatch h
  | x :: xs, y :: ys, h1, h2 => by
    have h1 : (if x = y then lexL xs ys else decide (x < y)) = false := h1
    have h2 : (if y = x then lexL ys xs else decide (y < x)) = false := h2
    by_cases e : x = y
    · subst e
      rw [if_pos rfl] at h1 h2
      rw [lexL_tot xs ys h1 h2]
    · rw [if_neg e] at h1
      rw [if_neg (fun q => e q.symm)] at h2
      have := of_decide_eq_false h1
      have := of_decide_eq_false h2
      omega
section
variable {prog : Program} {w : World} {A : Around} {E : Value → Shared → Prop} {s : Shared}
theorem kat_lexL {b : Bool} {ps qs : List Value} {is js : List Int} (n : Nat) (hp : IntsAre ps is) (hq : IntsAre qs js) (he : is.length = js.length) : PySem.W.KatLex prog w A b false (fun r t => t = s ∧ r = lexL is js) (ps.zip qs) n s := by
  induction hp generalizing qs js n with
  | nil =>
    cases hq with
    | nil => exact PySem.W.kat_nil ⟨rfl, rfl⟩
    | cons q u hq => simp at he
  | @cons i t ps is hp ih =>
    cases hq with
    | nil => simp at he
    | @cons j u qs js hq =>
      show PySem.W.KatLex prog w A b false _ ((Value.int i t, Value.int j u) :: ps.zip qs) n s
      refine PySem.W.kat_cons (wpAny_eqBool_int ?_)
      have el : lexL (i :: is) (j :: js) = if i = j then lexL is js else decide (i < j) := rfl
      by_cases e : i = j
      · subst e
        rw [if_pos rfl] at el
        rw [beq_self_eq_true, el]
        exact PySem.W.kat_yes (ih (n + 1) hq (by simpa using he))
      · rw [if_neg e] at el
        rw [show (i == j) = false from beq_eq_false_iff_ne.mpr e, el]
        exact PySem.W.kat_no (TS.oneLt_ints _ ⟨rfl, rfl⟩)
theorem tups_cmp {us : List Value} {k : Value → List Int} {d : Nat} (hp : ∀ v ∈ us, TS.TupInts s.heap v (k v) ∧ (k v).length = d) : SrtO.Cmp prog w A s (tuples' true) (fun p => p.1 ∈ us) (SrtO.lt2 fun v u => lexL (k v) (k u)) := by
  intro p q h1 h2
  obtain ⟨⟨a, xs, ea, ⟨o, ho, _, n, hd⟩, ia⟩, la⟩ := hp _ h1
  obtain ⟨⟨b, ys, eb, ⟨u, hu, _, m, hm⟩, ib⟩, lb⟩ := hp _ h2
  show wpAny (model prog w) A (keyLt' (tuples' true) p.1 q.1) (fun r t => t = s ∧ r = lexL (k p.1) (k q.1)) (fun _ _ => False) s
  have sz : xs.size = ys.size := by
    have q1 := ia.length
    have q2 := ib.length
    rw [Array.length_toList] at q1 q2
    omega
  generalize k p.1 = kp at ia la ⊢
  generalize k q.1 = kq at ib lb ⊢
  rw [ea, eb]
  refine PySem.W.kat_lt ho hd hu hm ?_
  rw [show decide (xs.size < ys.size) = false from decide_eq_false (by omega)]
  exact kat_lexL 0 ia ib (by omega)
theorem tups_firsts {h : Heap} {k : Value → List Int} {d : Nat} (h1 : 1 ≤ d) : ∀ us : List Value, (∀ v ∈ us, TS.TupInts h v (k v) ∧ (k v).length = d) → ∃ fs, PySem.W.KatTups h us fs ∧ fs.length = us.length ∧ ∀ f ∈ fs, ∃ i t, f = Value.int i t
  | [], _ => ⟨[], .nil, rfl, fun _ m => nomatch m⟩
  | v :: us, x => by
    obtain ⟨fs, kt, hl, hi⟩ := tups_firsts h1 us fun u hu => x u (List.mem_cons_of_mem _ hu)
    obtain ⟨⟨a, xs, ea, ⟨o, ho, hc, n, hdt⟩, ia⟩, la⟩ := x v List.mem_cons_self
    obtain ⟨ys⟩ := xs
    cases ys with
    | nil =>
      have l := ia.length
      rw [la] at l
      have l : 0 = d := l
      omega
    | cons y ys =>
      obtain ⟨m, t, hy⟩ := ia.all y List.mem_cons_self
      subst ea
      refine ⟨y :: fs, .cons ho hc hdt rfl kt, by simp [hl], fun f hf => ?_⟩
      rcases List.mem_cons.mp hf with rfl | hf
      · exact ⟨m, t, hy⟩
      · exact hi f hf
theorem tups_sortable {a : Addr} {us : List Value} {k : Value → List Int} {d : Nat} (h1 : 1 ≤ d) (h0 : 0 < us.length) (hp : ∀ v ∈ us, TS.TupInts s.heap v (k v) ∧ (k v).length = d) (ha : ∀ o, s.heap.get? a = some o → o.cls ≠ .type "tuple") :
    SrtO.SortableO prog w A s a us fun v u => lexL (k v) (k u) := by
  intro h' keep
  have hp' : ∀ v ∈ us, TS.TupInts h' v (k v) ∧ (k v).length = d := fun v m => ⟨(hp v m).1.keeps fun b o e c => keep b o (fun z => by subst z; exact ha o e c) e, (hp v m).2⟩
  obtain ⟨fs, q1, q2, q3⟩ := tups_firsts h1 us hp'
  refine ⟨tuples' true, fun Q E hq => ?_, tups_cmp hp'⟩
  refine PySem.W.kat_kind (T := .type "int") q1 (by omega) (fun f m => ?_) (by rfl) ?_
  · obtain ⟨x, t, rfl⟩ := q3 f m
    exact PySem.W.Looks.now
  · rw [show (Value.type "int" != Value.type "tuple") = true from by decide +kernel]
    exact hq
theorem swoL {α : Type} (k : α → List Int) : SrtO.Swo fun v u => lexL (k v) (k u) := ⟨fun x y => lexL_asym _ _, fun x y z => lexL_tr _ _ _⟩
end
/-- sorted(xs), xs a list of tuples of d ints -/
def rSortedL (K : PySem.W.Frag) (d : Nat) : List V → Hp → VK → Prop := fun vs H Q => ∃ (a : Addr) (xs : List V), vs = [V.ref a] ∧ SqL K H a xs ∧ (∀ x ∈ xs, ∃ ns, TupI K H x ns ∧ ns.length = d) ∧
  ∀ (ys : List V) (p : Addr), ys.Perm xs → ys.Pairwise (fun x y => ∀ n m, TupI K H x n → TupI K H y m → lexL m n = false) → H p = none → Q (.ref p) (upd H p (.lst ys))
theorem zsorted {X : Cx} {K : PySem.W.Frag} {d : Nat} (hK : X.K = K) (h1 : 1 ≤ d) : CallR X (.builtin "sorted") (rSortedL K d) := by
  subst hK
  intro pins s σ H vs us Q I r h
  obtain ⟨a, xs, rfl, hs, hx, q⟩ := h
  obtain ⟨its, rv, hl, hz⟩ := I.list hs
  rw [Vals.ref1 r]
  obtain ⟨e1, e2⟩ := bkV_refs rv fun x m => by
    obtain ⟨ns, ⟨t, e, _⟩, _⟩ := hx x m
    exact ⟨t, e⟩
  have raw : ∀ v ∈ its, TS.TupInts s.heap v (TS.intsOf s.heap v) ∧ (TS.intsOf s.heap v).length = d := by
    intro v hv
    obtain ⟨t, rfl⟩ := e2 v hv
    have hm : V.ref t ∈ xs := by rw [e1]; exact List.mem_map.mpr ⟨_, hv, rfl⟩
    obtain ⟨ns, ⟨t', e, ht⟩, hn⟩ := hx _ hm
    cases e
    have q1 := tupI_raw I ht
    rw [q1.ints]
    exact ⟨q1, hn⟩
  refine SrtO.sorted_ord (ltv := fun v u => lexL (TS.intsOf s.heap v) (TS.intsOf s.heap u)) (swoL _) hl.isList (by rw [← rv.length]; exact hz) (fun h2 h₁ b hb kk => ?_) fun out o1 o2 => ?_
  · refine tups_sortable (s := { s with heap := h₁ }) (k := TS.intsOf s.heap) h1 (by omega) (fun v hm => ⟨(raw v hm).1.keeps fun c o e _ => (kk c o e).2, (raw v hm).2⟩) fun o e => ?_
    have e' := e.symm.trans hb
    cases e'
    exact fun c => absurd (Value.type.inj c) (by decide)
  · have h3 : ∀ u ∈ out, ∃ b, u = Value.ref b := fun u hu => e2 u (o2.perm.mem_iff.mp hu)
    obtain ⟨n, hn⟩ := PyProof.Rows.sortedAll_at s.heap its out.toArray
    have hpm : (out.map bkV).Perm xs := by rw [e1]; exact o2.perm.map _
    refine ⟨.ref (s.heap.objs.size + 1), upd H (s.heap.objs.size + 1) (.lst (out.map bkV)), I.laid (t' := s.toks) (fun b o e => PyProof.Rows.sortedAll_old e) (Nat.le_succ _) ⟨?_, out, n, bkV_vals h3, hn⟩, rfl, q _ _ hpm ?_ (I.hok.fresh (Nat.le_succ _))⟩
    · rw [hpm.length_eq]; exact hz
    · rw [List.pairwise_map]
      refine List.Pairwise.imp (fun {u v} huv nn mm h4 h5 => ?_) o1
      obtain ⟨t1, g1, k1⟩ := h4
      obtain ⟨t2, g2, k2⟩ := h5
      have w1 := tupI_raw I k1
      have w2 := tupI_raw I k2
      rw [← bkV_ref g1] at w1
      rw [← bkV_ref g2] at w2
      rw [← w1.ints, ← w2.ints]
      exact huv
/-! ### by data -/
class Ktup (α : Type) [Py α] where
  key : α → List Int
  d : Nat
  pos : 1 ≤ d
  len : ∀ x, (key x).length = d
  py : ∀ x : α, toPy x = .tuple ((key x).map PyData.int)
  inj : ∀ x y, key x = key y → x = y
instance : Ktup (Int × Int) := ⟨fun x => [x.1, x.2], 2, by decide, fun _ => rfl, fun _ => rfl, fun x y h => by
  obtain ⟨a, b⟩ := x
  obtain ⟨c, d⟩ := y
  simpa using h⟩
instance : Ktup (P3 Int Int Int) := ⟨fun x => [x.a, x.b, x.c], 3, by decide, fun _ => rfl, fun _ => rfl, fun x y h => by
  obtain ⟨a, b, c⟩ := x
  obtain ⟨d, e, f⟩ := y
  simpa using h⟩
instance : Ktup (P4 Int Int Int Int) := ⟨fun x => [x.a, x.b, x.c, x.d], 4, by decide, fun _ => rfl, fun _ => rfl, fun x y h => by
  obtain ⟨a, b, c, d⟩ := x
  obtain ⟨e, f, g, i⟩ := y
  simpa using h⟩
section
variable {α : Type} [Py α] [Ktup α] {K : PySem.W.Frag} {H Ho : Hp}
def leK (x y : α) : Bool := !lexL (Ktup.key y) (Ktup.key x)
def srtK (xs : List α) : List α := xs.mergeSort leK
theorem leK_tr (x y z : α) (h1 : leK x y = true) (h2 : leK y z = true) : leK x z = true := by
  unfold leK at *
  simp only [Bool.not_eq_true'] at *
  exact lexL_tr _ _ _ h1 h2
theorem leK_tot (x y : α) : (leK x y || leK y x) = true := by
  unfold leK
  cases h : lexL (Ktup.key y) (Ktup.key x) with
  | false => rfl
  | true => rw [lexL_asym _ _ h]; rfl
theorem leK_anti (x y : α) (h1 : leK x y = true) (h2 : leK y x = true) : x = y := by
  unfold leK at *
  simp only [Bool.not_eq_true'] at *
  exact Ktup.inj _ _ (lexL_tot _ _ h2 h1)
theorem srt_uniq : ∀ {l m : List α}, l.Perm m → l.Pairwise (fun x y => leK x y = true) → m.Pairwise (fun x y => leK x y = true) → l = m
  | [], m, hp, _, _ => (List.Perm.nil_eq hp)
  | x :: l, [], hp, _, _ => absurd hp.length_eq (by simp)
  | x :: l, y :: m, hp, h1, h2 => by
    have e : x = y := by
      rcases List.mem_cons.mp (hp.mem_iff.mp (List.mem_cons_self (a := x) (l := l))) with e | hx
      · exact e
      rcases List.mem_cons.mp (hp.mem_iff.mpr (List.mem_cons_self (a := y) (l := m))) with e | hy
      · exact e.symm
      exact leK_anti x y ((List.pairwise_cons.mp h1).1 y hy) ((List.pairwise_cons.mp h2).1 x hx)
    subst e
    rw [srt_uniq hp.cons_inv (List.pairwise_cons.mp h1).2 (List.pairwise_cons.mp h2).2]
theorem srtK_perm (xs : List α) : (srtK xs).Perm xs := List.mergeSort_perm xs leK
theorem srtK_srt (xs : List α) : (srtK xs).Pairwise (fun x y => leK x y = true) := List.pairwise_mergeSort leK_tr leK_tot xs
theorem srtK_of {xs ys : List α} (h : ys.Perm xs) (hs : ys.Pairwise (fun x y => leK x y = true)) : ys = srtK xs := srt_uniq (h.trans (srtK_perm xs).symm) hs (srtK_srt xs)
theorem srtK_eq {xs ys : List α} (h : ys.Perm xs) : srtK ys = srtK xs := srtK_of ((srtK_perm ys).trans h) (srtK_srt ys)
theorem DL.perm {vs us : List V} (hp : us.Perm vs) : ∀ {xs : List α}, DL K H vs xs → ∃ ys, ys.Perm xs ∧ DL K H us ys := by
  induction hp with
  | nil => exact fun {xs} h => ⟨xs, List.Perm.refl _, h⟩
  | cons v _ ih =>
    intro xs h
    cases xs with
    | nil => cases h
    | cons x xs =>
      cases h with
      | cons h1 h2 =>
        obtain ⟨ys, p, q⟩ := ih h2
        exact ⟨x :: ys, p.cons x, .cons h1 q⟩
  | swap u v l =>
    intro xs h
    cases xs with
    | nil => cases h
    | cons x xs =>
      cases xs with
      | nil => cases h with | cons _ h2 => cases h2
      | cons y xs =>
        cases h with
        | cons h1 h2 =>
          cases h2 with
          | cons h2 h3 => exact ⟨y :: x :: xs, List.Perm.swap _ _ _, .cons h2 (.cons h1 h3)⟩
  | trans _ _ ih1 ih2 =>
    intro xs h
    obtain ⟨ys, p, q⟩ := ih2 h
    obtain ⟨zs, p2, q2⟩ := ih1 q
    exact ⟨zs, p2.trans p, q2⟩
theorem dints_all : ∀ {vs : List V} {is : List Int}, DqAll K H vs (is.map PyData.int) → vs = is.map V.int
  | vs, [], h => by cases h; rfl
  | vs, i :: is, h => by
    cases h with
    | cons h1 h2 =>
      cases h1
      rw [dints_all h2]; rfl
theorem tupI_of {v : V} {x : α} (h : D K H v x) : TupI K H v (Ktup.key x) := by
  have h : Dq K H v (toPy x) := h
  rw [Ktup.py] at h
  cases h with
  | tup hs ha =>
    rw [dints_all ha] at hs
    exact ⟨_, rfl, SqT.of hs⟩
theorem dl_pw {us : List V} : ∀ {ys : List α}, DL K H us ys → us.Pairwise (fun x y => ∀ n m, TupI K H x n → TupI K H y m → lexL m n = false) → ys.Pairwise (fun x y => leK x y = true) := by
  induction us with
  | nil =>
    intro ys h _
    cases ys with
    | nil => exact .nil
    | cons y ys => cases h
  | cons u us ih =>
    intro ys h hp
    cases ys with
    | nil => cases h
    | cons y ys =>
      cases h with
      | cons h1 h2 =>
        obtain ⟨p1, p2⟩ := List.pairwise_cons.mp hp
        refine List.pairwise_cons.mpr ⟨fun z hz => ?_, ih h2 p2⟩
        obtain ⟨i, hi⟩ := List.mem_iff_getElem?.mp hz
        obtain ⟨t, ht, dt⟩ := DL.get h2 hi
        have q := p1 t (List.mem_of_getElem? ht) _ _ (tupI_of h1) (tupI_of dt)
        unfold leK
        rw [q]; rfl
theorem y_sortK {rs : List (Addr × HO)} {v : V} {Q : VK} {xs : List α} (d1 : LV K rs Ho v xs) (z : Zs rs H Ho) (k : ∀ H' p ws, Zs ((p, .lst ws) :: rs) H' Ho → DL K Ho ws (srtK xs) → Q (.ref p) H') : rSortedL K (Ktup.d α) [v] H Q := by
  obtain ⟨p, vs, rfl, d, s⟩ := LV.rd d1 z
  have dH : DL K H vs xs := DL.mo d z.le
  refine ⟨p, vs, rfl, s, fun u hu => ?_, fun us q hp hpw hq => ?_⟩
  · obtain ⟨i, hi⟩ := List.mem_iff_getElem?.mp hu
    obtain ⟨y, hy, dy⟩ := DL.item dH hi
    exact ⟨_, tupI_of dy, Ktup.len y⟩
  · obtain ⟨ys, pe, dy⟩ := DL.perm hp d
    have dyH : DL K H us ys := DL.mo dy z.le
    have e : ys = srtK xs := srtK_of pe (dl_pw dyH hpw)
    subst e
    exact k _ q us (z.root hq) dy
end
section
variable {K : PySem.W.Frag} {rs : List (Addr × HO)} {H Ho : Hp} {α β γ δ : Type} [Py α] [Py β] [Py γ] [Py δ] {v u : V} {Q : VK}
theorem y_cat22 {a : α × β} {b : γ × δ} (d1 : D K Ho v a) (d2 : D K Ho u b) (z : Zs rs H Ho) (k : ∀ p H' Ho', Same Ho Ho' → Zs rs H' Ho' → D K Ho' (.ref p) (⟨a.1, a.2, b.1, b.2⟩ : P4 α β γ δ) → Q (.ref p) H') : rCatT K v u H Q := by
  cases d1 with
  | tup hs ha =>
    cases d2 with
    | tup ht hb =>
      cases ha with
      | cons a1 a2 =>
        cases a2 with
        | cons a2 a3 =>
          cases a3
          cases hb with
          | cons b1 b2 =>
            cases b2 with
            | cons b2 b3 =>
              cases b3
              refine ⟨_, _, _, _, rfl, rfl, SqT.of (z.le _ _ hs), SqT.of (z.le _ _ ht), by simp, by show 4 ≤ sizeLine; decide, fun e => (nomatch e), fun _ q hq => ?_⟩
              exact k _ _ _ (Same.new (z.free hq)) (z.alloc hq) (.tup upd_same (.cons (dp_mono (Same.new (z.free hq)) _ _ a1) (.cons (dp_mono (Same.new (z.free hq)) _ _ a2) (.cons (dp_mono (Same.new (z.free hq)) _ _ b1) (.cons (dp_mono (Same.new (z.free hq)) _ _ b2) .nil)))))
end
theorem zop_catT {X : Cx} {K : PySem.W.Frag} (hK : X.K = K) : OpR X (binaryOp .Add) (rCatT K) := hK ▸ op_catT
end Z

/-! # Y4: the machine's rules, the written part by its own letter; isinstance -/
namespace Z
open PySem PySem.Spec PyProof.Rows L2
section
variable {α : Type} [Py α]
/-! ### isinstance: the kind is known -/
class Kin (β : Type) [Py β] where
  ty : String
  ok : ∀ {K : PySem.W.Frag} {H : Hp} {v : V} {x : β}, D K H v x → TyX K H v (.type ty)
theorem tyx_list {K : PySem.W.Frag} {H : Hp} {p : Addr} {vs : List V} (h : SqL K H p vs) : TyX K H (.ref p) (.type "list") := by
  rcases h with (h | ⟨o, h⟩) | ⟨o, its, n, h, hc, _⟩
  · exact .base (.lst h)
  · exact .base (.frz h)
  · exact .kList h hc
theorem tyx_tup {K : PySem.W.Frag} {H : Hp} {p : Addr} {vs : List V} (h : SqT K H p vs) : TyX K H (.ref p) (.type "tuple") := by
  rcases h with (h | ⟨o, h⟩) | ⟨o, its, n, h, hc, _⟩
  · exact .base (.tup h)
  · exact .fTuple h
  · exact .kTuple h hc
theorem dp_list {K : PySem.W.Frag} {H : Hp} {v : V} {ds : List PyData} (h : Dq K H v (.list ds)) : TyX K H v (.type "list") := by
  cases h with
  | lst hs _ => exact tyx_list hs
theorem dp_tup {K : PySem.W.Frag} {H : Hp} {v : V} {ds : List PyData} (h : Dq K H v (.tuple ds)) : TyX K H v (.type "tuple") := by
  cases h with
  | tup hs _ => exact tyx_tup (SqT.of hs)
instance : Kin Int := ⟨"int", fun d => by rw [d_int d]; exact .base (.int _)⟩
instance : Kin Bool := ⟨"bool", fun d => by rw [d_bool d]; exact .base (.bl _)⟩
instance : Kin Str := ⟨"str", fun d => by rw [d_str d]; exact .base (.str _)⟩
instance : Kin Unit := ⟨"NoneType", fun d => by cases d; exact .base .non⟩
instance : Kin (List α) := ⟨"list", fun d => dp_list d⟩
instance : Kin (Tp α) := ⟨"tuple", fun d => dp_tup d⟩
instance {β γ : Type} [Py β] [Py γ] : Kin (β × γ) := ⟨"tuple", fun d => dp_tup d⟩
instance {β γ δ : Type} [Py β] [Py γ] [Py δ] : Kin (P3 β γ δ) := ⟨"tuple", fun d => dp_tup d⟩
instance {β γ δ ε : Type} [Py β] [Py γ] [Py δ] [Py ε] : Kin (P4 β γ δ ε) := ⟨"tuple", fun d => dp_tup d⟩
section
variable {K : PySem.W.Frag} {H : Hp} {v : V} {Q : VK} {σ : L2.St}
theorem y_isi {β : Type} [Py β] [Kin β] {x : β} {T : String} {b : Bool} (d : D K H v x) (hb : kitB (Kin.ty β) T = some b) (k : Q (.bl b) H) : rIsi K [v, .ty T] H Q :=
  ⟨v, .ty T, _, .type T, b, rfl, .ty T, Kin.ok d, kit_ty hb, k⟩
theorem y_isiO {β : Type} [Py β] [Kin β] {x : Option β} {T : String} {b b' : Bool} (d : D K H v x) (hb : kitB (Kin.ty β) T = some b) (hb' : kitB "NoneType" T = some b') (k : Q (.bl (if x.isSome then b else b')) H) : rIsi K [v, .ty T] H Q := by
  cases x with
  | none =>
    cases d
    exact ⟨_, .ty T, _, .type T, b', rfl, .ty T, .base .non, kit_ty hb', k⟩
  | some x => exact ⟨v, .ty T, _, .type T, b, rfl, .ty T, Kin.ok (x := x) d, kit_ty hb, k⟩
end
end
section
variable {X : Cx} {K : PySem.W.Frag}
theorem zix_list (hK : X.K = K) : IxR X (rIxL K) := hK ▸ ix_list
theorem zix_tup (hK : X.K = K) : IxR X (rIxT K) := hK ▸ ix_tup
theorem zget_list (hK : X.K = K) : PGet X (rIxL K) := hK ▸ get_list
theorem zsl_list (hK : X.K = K) : SlR X (rSlL K) := hK ▸ sl_list
theorem zop_catS (hK : X.K = K) : OpR X (binaryOp .Add) (rCatS K) := hK ▸ op_catS
theorem zop_eqD (hK : X.K = K) (hu : X.A.units + 64 < cLine) : OpR X (compareOp .Eq) (rEqD K) := hK ▸ op_eqD hu
theorem zop_neD (hK : X.K = K) (hu : X.A.units + 64 < cLine) : OpR X (compareOp .NotEq) (rNeD K) := hK ▸ op_neD hu
theorem zlen (hK : X.K = K) : CallR X (.builtin "len") (rLenZ K) := hK ▸ call_len_seq
theorem zlist (hK : X.K = K) : CallR X (.type "list") (rListZ K) := hK ▸ call_list_of
theorem zisi (hK : X.K = K) : CallR X (.builtin "isinstance") (rIsi K) := hK ▸ call_isi
theorem zall (hK : X.K = K) (hc : X.calm = true) : CallR X (.builtin "all") (rAll K) := hK ▸ cr_all hc
theorem zany (hK : X.K = K) (hc : X.calm = true) : CallR X (.builtin "any") (rAny K) := hK ▸ cr_any hc
theorem zpi_list {tg l : Expr} {tl : TE} (hK : X.K = K) (hl : PE X l tl) : PI X tg l (iList K tl) := hK ▸ pi_list hl
theorem zpi_tup {tg l : Expr} {tl : TE} (hK : X.K = K) (hl : PE X l tl) : PI X tg l (iTup K tl) := hK ▸ pi_tup hl
theorem zsum (hK : X.K = K) (hc : X.calm = true) : CallR X (.builtin "sum") (rSum K) := hK ▸ cr_sum hc
theorem zsortI (hK : X.K = K) : CallR X (.builtin "sorted") (rSortedI K) := hK ▸ cr_sortedI
theorem zop_inD (hK : X.K = K) (hu : X.A.units + 65 < cLine) : OpR X (compareOp .In) (rInD K) := hK ▸ op_inD hu
theorem zop_notInD (hK : X.K = K) (hu : X.A.units + 65 < cLine) : OpR X (compareOp .NotIn) (rNotInD K) := hK ▸ op_notInD hu
end
theorem zpg_tup {X : Cx} {K : PySem.W.Frag} {es : List Expr} {k : Nat} {t : TGs} {n : Nat} {pos : Pos} (hK : X.K = K) (hc : X.calm = true) (h : PGs X es t)
    (hn : (assignEach es X.env).length = n := by rfl) (hst : (assignEach es X.env).findIdx? (·.1) = none := by rfl) : PG X (.Tuple es k pos) (gTup K n t) := hK ▸ pg_tup hc h hn hst
/-- a def that stands at f under the name x -/
structure Cal (P : Program) (w : World) (K : PySem.W.Frag) (mg : Str → Option Value) (base : Heap) (CX : CXT) (x : Str) (ps : List Str) (k : Nat) (sp : Sp) (f : Addr) (fd : FuncData) : Prop where
  ok : FnOk P w K mg base CX k f fd ps sp
  g : mg x = some (.ref f)
  kp : PySem.W.keepIn K (.ref f) = true
  b : Binds K fd ps []
section
variable {X : Cx} {K : PySem.W.Frag} {x n m : Str} {c : Value} {C : Addr} {i : Nat} {body suite : List Stmt} {b₀ : Stmt} {p p2 np pos pos' : Pos} {j : Nat} {tb : WX → TS} {ts : Addr → Value → Option Addr → TS} {W Wout : WX} {bmB : List Value} {B newId initId : String}
theorem zps_try_as (hK : X.K = K) (hs : X.stack = X.env :: X.outer) (hf : X.env.frame = some X.env.locals) (hN : X.N.Nodup) (hi : X.N[i]? = some n) (hln : X.env.kindOf n = some .local) (hc : Names X x c) (tk : Takes X Wout)
    (hb : ∀ (W : WX) (pn : List (Addr × Obj)) (xe : Value → Shared → Prop), Takes (X.tr pn xe) W → PassesOwn (model X.prog X.w) X.A X.env xe → PSs (X.tr pn xe) body (tb W))
    (hsu : ∀ (a : Addr) (oe : Obj) (cls : Value) (d : Option Addr) (pn : List (Addr × Obj)), Zc cls d oe → (∃ vs, oe.data = .fields vs) → PSs (X.suite a ((a, oe) :: pn)) (b₀ :: suite) (ts a cls d)) :
    PS X (.Try body [.ExceptHandler (some (.Name x np)) (some n) (b₀ :: suite) pos'] [] [] pos) (tTryAs K c i tb ts Wout) := hK ▸ ps_try_as hs hf hN hi hln hc tk hb hsu
theorem zps_try_only (hK : X.K = K) (hs : X.stack = X.env :: X.outer) (hf : X.env.frame = some X.env.locals) (hc : Names X x c) (tk : Takes X Wout)
    (hb : ∀ (W : WX) (pn : List (Addr × Obj)) (xe : Value → Shared → Prop), Takes (X.tr pn xe) W → PassesOwn (model X.prog X.w) X.A X.env xe → PSs (X.tr pn xe) body (tb W))
    (hsu : ∀ (a : Addr) (oe : Obj) (cls : Value) (d : Option Addr) (pn : List (Addr × Obj)), Zc cls d oe → (∃ vs, oe.data = .fields vs) → PSs (X.suite a ((a, oe) :: pn)) (b₀ :: suite) (ts a cls d)) :
    PS X (.Try body [.ExceptHandler (some (.Name x np)) none (b₀ :: suite) pos'] [] [] pos) (tTryOnly K c tb ts Wout) := hK ▸ ps_try_only hs hf hc tk hb hsu
theorem zps_raise (hK : X.K = K) (hc : X.calm = true) (tk : Takes X W) (q : PySem.W.excIn K C [.type "ValueError", .type "Exception", .type "BaseException", .type "object"] "ValueError.__new__" = true) (gC : X.mg x = some (.ref C)) (kC : PySem.W.keepIn K (.ref C) = true)
    (h1 : PySem.W.subIn K (.ref C) (.type "BaseException") = some true) (h2 : PySem.W.typeIn K (.ref C) = some (.type "type")) (hg : Gl X x) (hdb : (x == ("__debug__" : Str)) = false := by decide) :
    PS X (.Raise (some (.Call (.Name x p) [.Constant (.str m) j p2] [] pos)) none pos') (tRaise C W) := by
  subst hK
  exact ps_raise hc tk (pmk_own PySem.F.excBase_ValueError q gC kC (raises_own h1 h2) hg hdb)
/-- isinstance of the error that the suite holds -/
def rIsX (K : PySem.W.Frag) (a : Addr) (cls : Value) (d : Option Addr) : List V → Hp → VK → Prop := fun xs H Q => ∃ (D : Addr) (c : V) (cv : Value) (b : Bool), cls = .ref D ∧ d = none ∧ xs = [.ref a, c] ∧ ClsV c cv ∧ ExcC K D ∧ PySem.W.kitOne K (.ref D) cv = some b ∧ Q (.bl b) H
def rIsXT (K : PySem.W.Frag) (a : Addr) (cls : Value) (d : Option Addr) : List V → Hp → VK → Prop := fun xs H Q => ∃ (D : Addr) (tp : Addr) (cs : List V) (us : List Value) (b : Bool), cls = .ref D ∧ d = none ∧ xs = [.ref a, .ref tp] ∧ H tp = some (.tup cs) ∧ Paired ClsV cs us ∧ ExcC K D ∧ PySem.W.kitAny K (.ref D) us = some b ∧ Q (.bl b) H
theorem inst_at {X : Cx} {pins : List (Addr × Obj)} {σ : L2.St} {H : Hp} {s : Shared} {a D : Addr} {oe : Obj} {pn : List (Addr × Obj)} (hz : Zc (.ref D) none oe) (hf : ∃ vs, oe.data = .fields vs) (I : Inv (X.suite a ((a, oe) :: pn)) pins σ H s) : PySem.W.InstAt s.heap a oe D none := by
  have hget := (I.pin (a, oe) (List.mem_append.mpr (.inl List.mem_cons_self))).1
  obtain ⟨vs, hv⟩ := hf
  obtain ⟨oc, od, oda, osl⟩ := oe
  obtain ⟨h1, h2⟩ := hz
  dsimp only at h1 h2 hv
  subst h1 h2 hv
  exact ⟨hget, rfl, rfl, trivial⟩
theorem zisX {a : Addr} {cls : Value} {d : Option Addr} {oe : Obj} {pn : List (Addr × Obj)} (hK : X.K = K) (hz : Zc cls d oe) (hf : ∃ vs, oe.data = .fields vs) : CallR (X.suite a ((a, oe) :: pn)) (.builtin "isinstance") (rIsX K a cls d) := by
  subst hK
  intro pins s σ H xs us Q I r h
  obtain ⟨D, c, cv, b, rfl, rfl, rfl, hcv, C, e, q⟩ := h
  obtain ⟨u1, u2, rfl, r1, r2⟩ := vals2 r
  cases (show u1 = Value.ref a from r1)
  have ec := hcv.eq r2
  subst ec
  exact PySem.W.kia_one (PySem.W.handS_kitx_exc C.hg C.hk C.hs C.hd C.ha C.hn C.ht C.hm) I.kIn (inst_at hz hf I) e (fun z => nomatch z) fun tk => ⟨.bl b, H, I.tok tk, rfl, q⟩
theorem zisXT {a : Addr} {cls : Value} {d : Option Addr} {oe : Obj} {pn : List (Addr × Obj)} (hK : X.K = K) (hz : Zc cls d oe) (hf : ∃ vs, oe.data = .fields vs) : CallR (X.suite a ((a, oe) :: pn)) (.builtin "isinstance") (rIsXT K a cls d) := by
  subst hK
  intro pins s σ H xs us Q I r h
  obtain ⟨D, tp, cs, ws, b, rfl, rfl, rfl, hT, k, C, e, q⟩ := h
  obtain ⟨u1, u2, rfl, r1, r2⟩ := vals2 r
  cases (show u1 = Value.ref a from r1)
  cases (show u2 = Value.ref tp from r2)
  obtain ⟨_, its, rv, o, h1, h2, n, h3⟩ := (show ObjOk X.prog X.w H s.heap tp (.tup cs) from I.hok tp _ hT)
  have e3 := ClsV.all k rv
  subst e3
  obtain ⟨oc, od, dt, sl⟩ := o
  simp only at h2 h3
  subst h2 h3
  exact PySem.W.kia_tup (PySem.W.handS_kitx_exc C.hg C.hk C.hs C.hd C.ha C.hn C.ht C.hm) I.kIn (inst_at hz hf I) h1 e (fun z => nomatch z) fun tk => ⟨.bl b, H, I.tok tk, rfl, q⟩
end
section
variable {σ : L2.St} {H : Hp} {K : PySem.W.Frag}
inductive TCs : TA → List V → Prop where
  | nil : TCs tNil []
  | cons {v : V} {vs : List V} {t : TA} (h : TCs t vs) : TCs (tCons (tC v) t) (v :: vs)
theorem TCs.run {t : TA} {vs : List V} (h : TCs t vs) : ∀ {σ : L2.St} {H : Hp} {Q : List V → Hp → Prop}, Q vs H → t σ H Q := by
  induction h with
  | nil => exact fun q => q
  | cons h ih => exact fun q => ih q
theorem y_isX {cl : Nat → Addr} {n : Nat} {a : Addr} {Q : VK} {v : V} {cv : Value} {b : Bool} (xc : ExcC K (cl n)) (k : ClsV v cv) (e : PySem.W.kitOne K (.ref (cl n)) cv = some b) (q : Q (.bl b) H) : rIsX K a (.ref (cl n)) none [.ref a, v] H Q :=
  ⟨cl n, v, cv, b, rfl, rfl, rfl, k, xc, e, q⟩
theorem y_isXT {cl : Nat → Addr} {n : Nat} {a : Addr} {Q : VK} {rs : List (Addr × HO)} {Ho : Hp} {vs : List V} {us : List Value} {b : Bool} {ts : TA} (z : Zs rs H Ho) (xc : ExcC K (cl n)) (ht : TCs ts vs) (k : Paired ClsV vs us) (e : PySem.W.kitAny K (.ref (cl n)) us = some b) (q : ∀ H' Ho', Same Ho Ho' → Zs rs H' Ho' → Q (.bl b) H') (hl : vs.length ≤ sizeLine := by decide) :
    tTup ts σ H fun x H1 => rIsXT K a (.ref (cl n)) none [.ref a, x] H1 Q := by
  refine ht.run ⟨hl, fun p hp => ?_⟩
  have e3 : Same Ho (upd Ho p (.tup vs)) := Same.new (z.free hp)
  exact ⟨cl n, p, vs, us, b, rfl, rfl, rfl, upd_same, k, xc, e, q _ _ e3 (z.alloc hp)⟩
theorem kitAny_or {t c : Value} {cs : List Value} {b r : Bool} (h : PySem.W.kitOne K t c = some b) (hr : PySem.W.kitAny K t cs = some r) : PySem.W.kitAny K t (c :: cs) = some (b || r) := by
  refine kitAny_cons h (fun e => ?_) (fun e => by rw [e]; rfl)
  rw [e]; exact hr
end

section
variable {X : Cx} {K : PySem.W.Frag} {tg e e2 : Expr} {ta : TA} {p pos tpos : Pos} {elts : List Expr} {kk : Nat}
theorem zpi_zip (hK : X.K = K) (hg : Gl X "zip") (hm : X.mg "zip" = none) (ha : PA X [e, e2] ta)
    (hs : starEach [e, e2] X.env = (false, eval e X.env) :: starEach [e2] X.env := by rfl) (hpl : (backTo pos (starEach [e2] X.env)).any (·.1) = false := by rfl) :
    PI X (.Tuple elts kk tpos) (.Call (.Name "zip" p) [e, e2] [] pos) (iZip K ta) := hK ▸ pi_zip hg hm ha hs hpl
theorem zpi_enum (hK : X.K = K) (hg : Gl X "enumerate") (hm : X.mg "enumerate" = none) (ha : PA X [e] ta) (hs : starEach [e] X.env = [(false, eval e X.env)] := by rfl) :
    PI X (.Tuple elts kk tpos) (.Call (.Name "enumerate" p) [e] [] pos) (iEnum K ta) := hK ▸ pi_enum hg hm ha hs
end
theorem zpi_rev {X : Cx} {K : PySem.W.Frag} {tg e : Expr} {ta : TA} {p pos : Pos} (hK : X.K = K) (hg : Gl X "reversed") (hm : X.mg "reversed" = none) (ha : PA X [e] ta) (hs : starEach [e] X.env = [(false, eval e X.env)] := by rfl) : PI X tg (.Call (.Name "reversed" p) [e] [] pos) (iRev K ta) := hK ▸ pi_reversed hg hm ha hs
end Z

/-! # Yg: what is one's own, by groups of roots -/
namespace Z
open PySem PySem.Spec PyProof.Rows L2
abbrev Grp := List (Addr × HO)
/-- groups, in a row, ahead of the rest -/
def rowG (gs : List Grp) (amb : Grp) : Grp := gs.foldr (· ++ ·) amb
theorem rowG_eq (gs : List Grp) (amb : Grp) : rowG gs amb = gs.flatten ++ amb := by
  induction gs with
  | nil => rfl
  | cons g gs ih => show g ++ rowG gs amb = _; rw [ih, List.flatten_cons, List.append_assoc]
theorem mg0 {g R : Grp} : ∀ r ∈ g, r ∈ g ++ R := fun _ h => List.mem_append_left _ h
theorem mgS {g h R : Grp} (k : ∀ r ∈ g, r ∈ R) : ∀ r ∈ g, r ∈ h ++ R := fun r m => List.mem_append_right _ (k r m)
theorem room65 {k : Nat} {A : Around} (r : Room k A) : A.units + 65 < cLine := by have := r.un; omega
theorem mgN {rs : Grp} : ∀ r ∈ ([] : Grp), r ∈ rs := fun _ m => nomatch m
theorem mgE {g : Grp} : ∀ r ∈ g, r ∈ g := fun _ h => h
section
variable {K : PySem.W.Frag} {H Ho H' Ho' : Hp} {rs : Grp}
theorem sel_nodup {α β : Type} (f : α → β) (l : List (List α)) (is : List Nat) (hn : is.Nodup) (h : (l.flatten.map f).Nodup) : ((is.filterMap fun i => l[i]?).flatten.map f).Nodup := by
  rw [List.map_flatten] at h ⊢
  unfold List.Nodup at h ⊢
  rw [List.pairwise_flatten] at h ⊢
  have sub : ∀ g ∈ (is.filterMap fun i => l[i]?), g ∈ l := fun r hr => by
    obtain ⟨i, _, e⟩ := List.mem_filterMap.mp hr
    exact List.mem_of_getElem? e
  refine ⟨fun g hg => ?_, ?_⟩
  · obtain ⟨r, hr, rfl⟩ := List.mem_map.mp hg
    exact h.1 _ (List.mem_map.mpr ⟨r, sub r hr, rfl⟩)
  · rw [List.pairwise_map]
    have h2 := h.2
    rw [List.pairwise_map] at h2
    refine List.Pairwise.filterMap _ (fun i j hij a ha b hb => ?_) hn
    rw [List.pairwise_iff_getElem] at h2
    have hl1 := (List.getElem?_eq_some_iff.mp ha)
    have hl2 := (List.getElem?_eq_some_iff.mp hb)
    obtain ⟨hi, rfl⟩ := hl1
    obtain ⟨hj, rfl⟩ := hl2
    rcases Nat.lt_or_gt_of_ne hij with c | c
    · exact h2 i j hi hj c
    · exact fun x hx y hy e => h2 j i hj hi c y hy x hx e.symm
/-- some of the groups, in any order -/
theorem Zs.go {rs rs' : Grp} (gs : List Grp) (amb : Grp) (is : List Nat) (z : Zs rs H Ho) (h1 : rs = rowG gs amb := by rfl) (h2 : rs' = rowG (is.filterMap fun i => gs[i]?) amb := by rfl) (hn : is.Nodup := by decide) : Zs rs' H Ho := by
  subst h1 h2
  rw [rowG_eq] at z ⊢
  have sub : ∀ r ∈ (is.filterMap fun i => gs[i]?).flatten, r ∈ gs.flatten := fun r hr => by
    obtain ⟨g, hg, hr⟩ := List.mem_flatten.mp hr
    obtain ⟨i, _, e⟩ := List.mem_filterMap.mp hg
    exact List.mem_flatten.mpr ⟨g, List.mem_of_getElem? e, hr⟩
  have sub2 : ∀ r ∈ (is.filterMap fun i => gs[i]?).flatten ++ amb, r ∈ gs.flatten ++ amb := fun r hr => by
    rcases List.mem_append.mp hr with h | h
    · exact List.mem_append_left _ (sub r h)
    · exact List.mem_append_right _ h
  refine ⟨z.le, fun r hr => z.rt r (sub2 r hr), ?_, fun r hr => z.nt r (sub2 r hr)⟩
  · have nd := z.nd
    rw [List.map_append, List.nodup_append] at nd ⊢
    refine ⟨sel_nodup _ gs is hn nd.1, nd.2.1, fun a ha b hb e => ?_⟩
    obtain ⟨r, hr, rfl⟩ := List.mem_map.mp ha
    exact nd.2.2 _ (List.mem_map.mpr ⟨r, sub r hr, rfl⟩) b hb e
end
/-! ### ways, without data -/
section
variable {α β γ : Type} {Φ : γ → Prop}
theorem run_gd {p : Prop} {c : W γ} (h : (W.guard p c).run Φ) : p ∧ c.run Φ := h
theorem run_opt' {o : Option β} {f : β → W γ} (h : (W.bind (W.opt o) f).run Φ) : ∃ a, o = some a ∧ (f a).run Φ := h
theorem run_itT {A B : W γ} {b : Bool} (h : (W.ite b A B).run Φ) (e : b = true) : A.run Φ := h.1 e
theorem run_itF {A B : W γ} {b : Bool} (h : (W.ite b A B).run Φ) (e : b = false) : B.run Φ := h.2 e
theorem run_bret {e : β} {f : β → W γ} (h : (W.bind (W.ret e) f).run Φ) : (f e).run Φ := h
theorem w_two {b : Bool} {X Y : Prop} (h1 : b = true → X) (h2 : b = false → Y) : if b = true then X else Y := by
  cases b with
  | true => exact iteT (h1 rfl)
  | false => exact iteF (h2 rfl)
theorem exm_mono {c : W (Ex β)} {N N' : β → Prop} {X X' : Er → Prop} (h : c.run (ExP N X)) (h1 : ∀ a, N a → N' a) (h2 : ∀ e, X e → X' e) : c.run (ExP N' X') :=
  c.mono _ _ (fun r hr => by cases r with | ok a => exact h1 a hr | er e => exact h2 e hr) h
theorem run_mono' {c : W β} {N N' : β → Prop} (h : c.run N) (k : ∀ a, N a → N' a) : c.run N' := c.mono _ _ k h
theorem run_mono3 {c : W β} {f : β → W γ} {N : β → Prop} (hw : (W.bind c f).run Φ) (k : ∀ a, (f a).run Φ → N a) : c.run N := c.mono _ _ (fun r h => k r h) hw
theorem run_mono2 {c : W (α × β)} {f : α → β → W γ} {N : α × β → Prop} (hw : (W.bind2 c f).run Φ) (k : ∀ a b, (f a b).run Φ → N (a, b)) : c.run N := c.mono _ _ (fun r h => k r.1 r.2 h) hw
theorem run_b {c : W β} {f : β → W γ} (h : (W.bind c f).run Φ) : c.run fun a => (f a).run Φ := h
theorem run_b2 {c : W (α × β)} {f : α → β → W γ} (h : (W.bind2 c f).run Φ) : c.run fun r => (f r.1 r.2).run Φ := h
end
/-! ### lists of data of one's own -/
section
variable {K : PySem.W.Frag} {H Ho H' Ho' : Hp} {α β γ : Type} [Py α] [Py β] {Φ : γ → Prop} {R : Grp} {v w : V} {Q : VK}
def OL (K : PySem.W.Frag) (Ho : Hp) (v : V) (xs : List α) (g : Grp) : Prop := ∃ p vs, v = .ref p ∧ DL K Ho vs xs ∧ g = [(p, .lst vs)]
theorem OL.mo {v : V} {xs : List α} {g : Grp} (h : OL K Ho v xs g) (e : Same Ho Ho') : OL K Ho' v xs g := by
  obtain ⟨p, vs, rfl, d, rfl⟩ := h
  exact ⟨p, vs, rfl, DL.mo d e, rfl⟩
theorem OL.mk {p : Addr} {ws : List V} {xs : List α} (d : DL K Ho ws xs) : OL K Ho (.ref p) xs [(p, .lst ws)] := ⟨p, ws, rfl, d, rfl⟩
theorem OL.lv {xs : List α} {g : Grp} (h : OL K Ho v xs g) (m : ∀ r ∈ g, r ∈ R) : LV K R Ho v xs := by
  obtain ⟨p, vs, rfl, d, rfl⟩ := h
  exact ⟨p, vs, rfl, d, .inr (m _ (List.mem_singleton.mpr rfl))⟩
/-- a list of its own stands for good from now on -/
theorem OL.fr {xs : List α} {g : Grp} (h : OL K Ho v xs g) (z : Zs (g ++ R) H Ho) : ∃ Ho', Same Ho Ho' ∧ Zs R H Ho' ∧ Z.D K Ho' v xs := by
  obtain ⟨p, vs, rfl, d, rfl⟩ := h
  exact frz z d
theorem g_tyL {P : Prop} {xs : List α} (d : LV K R Ho v xs) (z : Zs R H Ho) (k : P) : tyV K "list" v H ∧ P := by
  obtain ⟨p, vs, rfl, _, s⟩ := LV.rd d z
  exact ⟨.inl ⟨rfl, _, s⟩, k⟩
theorem g_app {xs : List α} {x : α} {g : Grp} {f : List α → W γ} (z : Zs (g ++ R) H Ho) (o : OL K Ho v xs g) (dx : Z.D K Ho w x) (hw : (W.bind (apd xs x) f).run Φ) (k : ∀ xs' g' H', Zs (g' ++ R) H' Ho → OL K Ho v xs' g' → (f xs').run Φ → Q .non H') : rAppend v [w] H Q := by
  obtain ⟨p, vs, rfl, d, rfl⟩ := o
  exact ⟨p, vs, w, rfl, rfl, z.head, by rw [DL.len d]; exact hw.1, k _ _ _ z.put ⟨p, _, rfl, d.push dx, rfl⟩ hw.2⟩
theorem g_ext {xs ys : List α} {g g2 : Grp} {f : List α → W γ} (z : Zs (g2 ++ (g ++ R)) H Ho) (o : OL K Ho v xs g) (o2 : OL K Ho w ys g2) (hw : (W.bind (exd xs ys) f).run Φ) (k : ∀ xs' g' H', Zs (g' ++ R) H' Ho → OL K Ho v xs' g' → (f xs').run Φ → Q .non H') : rExtend v [w] H Q := by
  obtain ⟨p, vs, rfl, d, rfl⟩ := o
  obtain ⟨q, us, rfl, d2, rfl⟩ := o2
  have z1 : Zs ((p, .lst vs) :: (q, .lst us) :: R) H Ho := Zs.sw1 z
  exact ⟨p, q, vs, us, rfl, rfl, z1.head, z.head, by rw [DL.len d, DL.len d2]; exact hw.1, k _ _ _ (Zs.tail (Zs.sw1 z1.put)) ⟨p, _, rfl, d.append d2, rfl⟩ hw.2⟩
/-- xs.insert(i, x) -/
def insL {α : Type} (xs : List α) (i : Int) (x : α) : W (List α) := W.guard (xs.length < sizeLine ∧ 0 ≤ i ∧ i < 2 ^ 63) (W.ret (xs.take i.toNat ++ [x] ++ xs.drop i.toNat))
theorem dpAll_takeG {vs : List V} {ds : List PyData} (h : DqAll K H vs ds) (n : Nat) : DqAll K H (vs.take n) (ds.take n) := dpAll_take h n
theorem g_ins {xs : List α} {x : α} {i : Int} {g : Grp} {f : List α → W γ} (z : Zs (g ++ R) H Ho) (o : OL K Ho v xs g) (dx : Z.D K Ho w x) (hw : (W.bind (insL xs i x) f).run Φ) (k : ∀ xs' g' H', Zs (g' ++ R) H' Ho → OL K Ho v xs' g' → (f xs').run Φ → Q .non H') :
    (fun x vs H Q => ∃ (l : Addr) (xs : List V) (i : Int) (y : V), x = .ref l ∧ vs = [.int i, y] ∧ H l = some (.lst xs) ∧ xs.length < sizeLine ∧ 0 ≤ i ∧ i < 2 ^ 63 ∧ Q .non (upd H l (.lst (xs.take i.toNat ++ [y] ++ xs.drop i.toNat))) : V → List V → Hp → VK → Prop) v [.int i, w] H Q := by
  obtain ⟨p, vs, rfl, d, rfl⟩ := o
  obtain ⟨⟨h1, h2, h3⟩, hw⟩ := hw
  refine ⟨p, vs, i, w, rfl, rfl, z.head, by rw [DL.len d]; exact h1, h2, h3, k _ _ _ z.put ⟨p, _, rfl, ?_, rfl⟩ hw⟩
  show DqAll _ _ _ ((xs.take i.toNat ++ [x] ++ xs.drop i.toNat).map Py.toPy)
  rw [List.map_append, List.map_append, List.map_take, List.map_drop]
  exact dpAll_append (dpAll_append (dpAll_take d _) (.cons dx .nil)) (dpAll_drop d _)
theorem g_clear {xs : List α} {g : Grp} (z : Zs (g ++ R) H Ho) (o : OL K Ho v xs g) (k : ∀ g' H', Zs (g' ++ R) H' Ho → OL K Ho v ([] : List α) g' → Q .non H') : rClear v [] H Q := by
  obtain ⟨p, vs, rfl, d, rfl⟩ := o
  exact ⟨p, vs, rfl, rfl, z.head, k _ _ z.put ⟨p, _, rfl, .nil, rfl⟩⟩
theorem dpAll_rev {vs : List V} {ds : List PyData} (h : DqAll K H vs ds) : DqAll K H vs.reverse ds.reverse := by
  induction vs generalizing ds with
  | nil => cases h; exact .nil
  | cons v vs ih => cases h with | cons h1 h2 => rw [List.reverse_cons, List.reverse_cons]; exact dpAll_append (ih h2) (.cons h1 .nil)
theorem g_rev {xs : List α} {g : Grp} (z : Zs (g ++ R) H Ho) (o : OL K Ho v xs g) (k : ∀ g' H', Zs (g' ++ R) H' Ho → OL K Ho v xs.reverse g' → Q .non H') : rReverse v [] H Q := by
  obtain ⟨p, vs, rfl, d, rfl⟩ := o
  refine ⟨p, vs, rfl, rfl, z.head, k _ _ z.put ⟨p, _, rfl, ?_, rfl⟩⟩
  show DqAll _ _ _ (xs.reverse.map Py.toPy)
  rw [List.map_reverse]
  exact dpAll_rev d
theorem g_sti {xs : List α} {x : α} {i : Int} {g : Grp} {QH : Hp → Prop} {f : List α → W γ} (z : Zs (g ++ R) H Ho) (o : OL K Ho v xs g) (dx : Z.D K Ho w x) (hw : (W.bind (sti xs i x) f).run Φ) (k : ∀ xs' g' H', Zs (g' ++ R) H' Ho → OL K Ho v xs' g' → (f xs').run Φ → QH H') : rSetL v (.int i) w H QH := by
  obtain ⟨p, vs, rfl, d, rfl⟩ := o
  obtain ⟨j, ej, hw⟩ := hw
  exact ⟨p, vs, i, j, rfl, rfl, z.head, by rw [DL.len d]; exact ej, k _ _ _ z.put ⟨p, _, rfl, DL.set d dx j, rfl⟩ hw⟩
theorem g_pop {xs : List α} {g : Grp} {f : α → W γ} (z : Zs (g ++ R) H Ho) (o : OL K Ho v xs g) (hw : (W.bind (popL xs) f).run Φ) (k : ∀ t w g' H', Zs (g' ++ R) H' Ho → OL K Ho v xs.dropLast g' → Z.D K Ho w t → (f t).run Φ → Q w H') : rPop v [] H Q := by
  obtain ⟨p, vs, rfl, d, rfl⟩ := o
  exact y_pop (n := 0) z rfl d hw fun t w ws' H' z' d' dw hw => k t w _ H' z' ⟨p, _, rfl, d', rfl⟩ dw hw
theorem g_popI {xs : List α} {i : Int} {g : Grp} {f : α × List α → W γ} (z : Zs (g ++ R) H Ho) (o : OL K Ho v xs g) (hw : (W.bind (popI xs i) f).run Φ) (k : ∀ t xs' w g' H', Zs (g' ++ R) H' Ho → OL K Ho v xs' g' → Z.D K Ho w t → (f (t, xs')).run Φ → Q w H') : rPopAt v [.int i] H Q := by
  obtain ⟨p, vs, rfl, d, rfl⟩ := o
  exact y_popI (n := 0) z rfl d hw fun t xs' w ws' H' z' d' dw hw => k t xs' w _ H' z' ⟨p, _, rfl, d', rfl⟩ dw hw
/-! ### a value gets a name -/
def LetV (G : V → Prop) (v : V) : Prop := G v
theorem l_asg {u : TS} {te : TE} {D : Ends} {σ : L2.St} {i : Nat} (σ' : V → L2.St) (hσ : ∀ v, σ.set i (some v) = σ' v) (k : te σ H fun v H1 => LetV (fun v => u D (σ' v) H1) v) : tSeq (tAsg te (gName i)) u D σ H := by
  have e : (fun v H1 => LetV (fun v => u D (σ' v) H1) v) = fun v H1 => u D (σ.set i (some v)) H1 := by funext v H1; rw [hσ]; rfl
  rw [e] at k
  exact k
variable {G : V → Prop}
theorem l_n (k : G .non) : LetV G .non := k
theorem l_i {e : Int} {f : Int → W γ} (hw : (W.bind (W.ret e) f).run Φ) (k : ∀ x, (f x).run Φ → G (.int x)) : LetV G (.int e) := k e hw
theorem l_b {e : Bool} {f : Bool → W γ} (hw : (W.bind (W.ret e) f).run Φ) (k : ∀ x, (f x).run Φ → G (.bl x)) : LetV G (.bl e) := k e hw
theorem l_s {e : Str} {f : Str → W γ} (hw : (W.bind (W.ret e) f).run Φ) (k : ∀ x, (f x).run Φ → G (.str x)) : LetV G (.str e) := k e hw
theorem l_d {e : α} {f : α → W γ} (hw : (W.bind (W.ret e) f).run Φ) (d : Z.D K Ho v e) (k : ∀ x v, Z.D K Ho v x → (f x).run Φ → G v) : LetV G v := k e v d hw
theorem l_o {e : List α} {g : Grp} {f : List α → W γ} (hw : (W.bind (W.ret e) f).run Φ) (z : Zs (g ++ R) H Ho) (o : OL K Ho v e g) (k : ∀ x v g, Zs (g ++ R) H Ho → OL K Ho v x g → (f x).run Φ → G v) : LetV G v := k e v g z o hw
/-- what is told stands for good -/
theorem l_fr {P : Prop} {xs : List α} {g : Grp} (o : OL K Ho v xs g) (z : Zs (g ++ R) H Ho) (k : ∀ Ho', Same Ho Ho' → Zs R H Ho' → Z.D K Ho' v xs → P) : P := by
  obtain ⟨Ho', e, z', d⟩ := o.fr z
  exact k Ho' e z' d
/-! ### ways -/
theorem w_t {X Y : Prop} (k : X) : if true = true then X else Y := by simpa using k
/-- both ways tell a value and change nothing -/
theorem w_if {σ : L2.St} {ta tb : TE} {c : Bool} {a b : β} (mk : β → V) (h1 : c = true → Q (mk a) H → ta σ H Q) (h2 : c = false → Q (mk b) H → tb σ H Q) (k : Q (mk (if c = true then a else b)) H) : if c = true then ta σ H Q else tb σ H Q := by
  cases c with
  | true => exact iteT (h1 rfl k)
  | false => exact iteF (h2 rfl k)
theorem w_andP {σ : L2.St} {tu : TT} {QB : Bool → Hp → Prop} {a : Bool} (b : Bool) (h : a = true → QB b H → tu σ H QB) (k : QB (a && b) H) : if a = true then tu σ H QB else QB false H := by
  cases a with
  | true => exact iteT (h rfl k)
  | false => exact iteF k
theorem w_orP {σ : L2.St} {tu : TT} {QB : Bool → Hp → Prop} {a : Bool} (b : Bool) (h : a = false → QB b H → tu σ H QB) (k : QB (a || b) H) : if a = true then QB true H else tu σ H QB := by
  cases a with
  | true => exact iteT k
  | false => exact iteF (h rfl k)
theorem w_andPV {σ : L2.St} {tb : TE} {a : Bool} (b : Bool) (h : a = true → Q (.bl b) H → tb σ H Q) (k : Q (.bl (a && b)) H) : if a = true then tb σ H Q else Q (.bl false) H := by
  cases a with
  | true => exact iteT (h rfl k)
  | false => exact iteF k
theorem w_orPV {σ : L2.St} {tb : TE} {a : Bool} (b : Bool) (h : a = false → Q (.bl b) H → tb σ H Q) (k : Q (.bl (a || b)) H) : if a = true then Q (.bl true) H else tb σ H Q := by
  cases a with
  | true => exact iteT k
  | false => exact iteF (h rfl k)
theorem w_chain {σ : L2.St} {tc : TE} {r' : R2} {y : V} {a : Bool} (b : Bool) (h : a = true → Q (.bl b) H → tc σ H fun w' H4 => r' y w' H4 Q) (k : Q (.bl (a && b)) H) : if a = true then tc σ H (fun w' H4 => r' y w' H4 Q) else Q (.bl false) H := by
  cases a with
  | true => exact iteT (h rfl k)
  | false => exact iteF k
/-! ways that meet -/
section
variable {S ρ : Type} {b : Bool} {c1 c2 : W S} {f : S → W γ} {σ : L2.St} {D : Ends} {u t1 t2 : TS} {tu : TT} {ta tb : TE} {QB : Bool → Hp → Prop}
theorem w_ifJ (hw : (W.bind (W.ite b c1 c2) f).run Φ) (J : S → L2.St → Hp → Prop)
    (h1 : b = true → c1.run (fun s => ∀ σ' H', J s σ' H' → u D σ' H') → t1 { D with nx := u D } σ H)
    (h2 : b = false → c2.run (fun s => ∀ σ' H', J s σ' H' → u D σ' H') → t2 { D with nx := u D } σ H)
    (k : ∀ s σ' H', J s σ' H' → (f s).run Φ → u D σ' H') : if b = true then t1 { D with nx := u D } σ H else t2 { D with nx := u D } σ H := by
  cases b with
  | true => exact iteT (h1 rfl (W.mono _ _ _ (fun s q σ' H' j => k s σ' H' j q) (hw.1 rfl)))
  | false => exact iteF (h2 rfl (W.mono _ _ _ (fun s q σ' H' j => k s σ' H' j q) (hw.2 rfl)))
theorem w_ifC {Φ : ρ → Prop} {c1 c2 : W (Ctl ρ S)} {f : S → W ρ} (hw : (W.bind (W.ite b c1 c2) fun c => W.after c f).run Φ) (J : S → L2.St → Hp → Prop)
    (h1 : b = true → c1.run (CtlP (fun s => ∀ σ' H', J s σ' H' → u D σ' H') (fun s => ∀ σ' H', J s σ' H' → u D σ' H') Φ) → t1 { D with nx := u D } σ H)
    (h2 : b = false → c2.run (CtlP (fun s => ∀ σ' H', J s σ' H' → u D σ' H') (fun s => ∀ σ' H', J s σ' H' → u D σ' H') Φ) → t2 { D with nx := u D } σ H)
    (k : ∀ s σ' H', J s σ' H' → (f s).run Φ → u D σ' H') : if b = true then t1 { D with nx := u D } σ H else t2 { D with nx := u D } σ H := by
  have m : ∀ c : W (Ctl ρ S), c.run (fun c => (W.after c f).run Φ) → c.run (CtlP (fun s => ∀ σ' H', J s σ' H' → u D σ' H') (fun s => ∀ σ' H', J s σ' H' → u D σ' H') Φ) := fun c h => c.mono _ _ (fun r q => by
    cases r with
    | nx s => exact fun σ' H' j => k s σ' H' j q
    | bk s => exact fun σ' H' j => k s σ' H' j q
    | rt r => exact q) h
  cases b with
  | true => exact iteT (h1 rfl (m _ (hw.1 rfl)))
  | false => exact iteF (h2 rfl (m _ (hw.2 rfl)))
theorem w_andJ (hw : (W.bind (W.ite b c1 c2) f).run Φ) (J : S → Bool → Hp → Prop)
    (h1 : b = true → c1.run (fun s => ∀ v H', J s v H' → QB v H') → tu σ H QB)
    (h2 : b = false → c2.run (fun s => ∀ v H', J s v H' → QB v H') → QB false H)
    (k : ∀ s v H', J s v H' → (f s).run Φ → QB v H') : if b = true then tu σ H QB else QB false H := by
  cases b with
  | true => exact iteT (h1 rfl (W.mono _ _ _ (fun s q v H' j => k s v H' j q) (hw.1 rfl)))
  | false => exact iteF (h2 rfl (W.mono _ _ _ (fun s q v H' j => k s v H' j q) (hw.2 rfl)))
theorem w_orJ (hw : (W.bind (W.ite b c1 c2) f).run Φ) (J : S → Bool → Hp → Prop)
    (h1 : b = true → c1.run (fun s => ∀ v H', J s v H' → QB v H') → QB true H)
    (h2 : b = false → c2.run (fun s => ∀ v H', J s v H' → QB v H') → tu σ H QB)
    (k : ∀ s v H', J s v H' → (f s).run Φ → QB v H') : if b = true then QB true H else tu σ H QB := by
  cases b with
  | true => exact iteT (h1 rfl (W.mono _ _ _ (fun s q v H' j => k s v H' j q) (hw.1 rfl)))
  | false => exact iteF (h2 rfl (W.mono _ _ _ (fun s q v H' j => k s v H' j q) (hw.2 rfl)))
theorem w_andVJ (hw : (W.bind (W.ite b c1 c2) f).run Φ) (J : S → V → Hp → Prop)
    (h1 : b = true → c1.run (fun s => ∀ v H', J s v H' → Q v H') → tb σ H Q)
    (h2 : b = false → c2.run (fun s => ∀ v H', J s v H' → Q v H') → Q (.bl false) H)
    (k : ∀ s v H', J s v H' → (f s).run Φ → Q v H') : if b = true then tb σ H Q else Q (.bl false) H := by
  cases b with
  | true => exact iteT (h1 rfl (W.mono _ _ _ (fun s q v H' j => k s v H' j q) (hw.1 rfl)))
  | false => exact iteF (h2 rfl (W.mono _ _ _ (fun s q v H' j => k s v H' j q) (hw.2 rfl)))
theorem w_orVJ (hw : (W.bind (W.ite b c1 c2) f).run Φ) (J : S → V → Hp → Prop)
    (h1 : b = true → c1.run (fun s => ∀ v H', J s v H' → Q v H') → Q (.bl true) H)
    (h2 : b = false → c2.run (fun s => ∀ v H', J s v H' → Q v H') → tb σ H Q)
    (k : ∀ s v H', J s v H' → (f s).run Φ → Q v H') : if b = true then Q (.bl true) H else tb σ H Q := by
  cases b with
  | true => exact iteT (h1 rfl (W.mono _ _ _ (fun s q v H' j => k s v H' j q) (hw.1 rfl)))
  | false => exact iteF (h2 rfl (W.mono _ _ _ (fun s q v H' j => k s v H' j q) (hw.2 rfl)))
theorem w_ifEJ (hw : (W.bind (W.ite b c1 c2) f).run Φ) (J : S → V → Hp → Prop)
    (h1 : b = true → c1.run (fun s => ∀ v H', J s v H' → Q v H') → ta σ H Q)
    (h2 : b = false → c2.run (fun s => ∀ v H', J s v H' → Q v H') → tb σ H Q)
    (k : ∀ s v H', J s v H' → (f s).run Φ → Q v H') : if b = true then ta σ H Q else tb σ H Q := by
  cases b with
  | true => exact iteT (h1 rfl (W.mono _ _ _ (fun s q v H' j => k s v H' j q) (hw.1 rfl)))
  | false => exact iteF (h2 rfl (W.mono _ _ _ (fun s q v H' j => k s v H' j q) (hw.2 rfl)))
end
/-! ### targets -/
section
variable {δ ε : Type} [Py δ] [Py ε] {i j l m : Nat} {x : V} {σ : L2.St} {QS : L2.St → Hp → Prop} {rs : Grp}
theorem c_gt2 {a : α × β} (σ' : V → V → L2.St) (hσ : ∀ v u, (σ.set i (some v)).set j (some u) = σ' v u) (d : Z.D K Ho x a) (z : Zs rs H Ho) (k : ∀ v u, Z.D K Ho v a.1 → Z.D K Ho u a.2 → QS (σ' v u) H) : gTup K 2 (gCons (gName i) (gCons (gName j) gNil)) x σ H QS :=
  y_gt2 d z fun v u d1 d2 => by rw [hσ]; exact k v u d1 d2
theorem c_gt3 {a : P3 α β δ} (σ' : V → V → V → L2.St) (hσ : ∀ v u w, ((σ.set i (some v)).set j (some u)).set l (some w) = σ' v u w) (d : Z.D K Ho x a) (z : Zs rs H Ho) (k : ∀ v u w, Z.D K Ho v a.a → Z.D K Ho u a.b → Z.D K Ho w a.c → QS (σ' v u w) H) : gTup K 3 (gCons (gName i) (gCons (gName j) (gCons (gName l) gNil))) x σ H QS :=
  y_gt3 d z fun v u w d1 d2 d3 => by rw [hσ]; exact k v u w d1 d2 d3
theorem c_gt4 {a : P4 α β δ ε} (σ' : V → V → V → V → L2.St) (hσ : ∀ v u w t, (((σ.set i (some v)).set j (some u)).set l (some w)).set m (some t) = σ' v u w t) (d : Z.D K Ho x a) (z : Zs rs H Ho) (k : ∀ v u w t, Z.D K Ho v a.a → Z.D K Ho u a.b → Z.D K Ho w a.c → Z.D K Ho t a.d → QS (σ' v u w t) H) : gTup K 4 (gCons (gName i) (gCons (gName j) (gCons (gName l) (gCons (gName m) gNil)))) x σ H QS :=
  y_gt4 d z fun v u w t d1 d2 d3 d4 => by rw [hσ]; exact k v u w t d1 d2 d3 d4
theorem l_u {e : α} {f : α → W γ} {P : V → Prop} (hw : (W.bind (W.ret e) f).run Φ) (d : Z.D K Ho v e) (k : ∀ x v, Z.D K Ho v x → (f x).run Φ → P v) : P v := k e v d hw
theorem l_u2 {e : α} {f : α → W γ} {P : Prop} (hw : (W.bind (W.ret e) f).run Φ) (d : Z.D K Ho v e) (k : ∀ x, Z.D K Ho v x → (f x).run Φ → P) : P := k e d hw
theorem l_aug {te : TE} {tip : TIp} {u : TS} {D : Ends} (σ' : V → L2.St) (h : σ[i]? = some (some v)) (hσ : ∀ v, σ.set i (some v) = σ' v) (k : te σ H fun y H1 => tip v y H1 fun z H2 => LetV (fun v => u D (σ' v) H2) z) : tSeq (tAug i te tip) u D σ H := by
  refine y_aug σ' h hσ ?_
  exact k
end
/-! ### lists of unlike things -/
section
class Hc (α : Type) where
  cs : α → List PyData
structure H2 (α β : Type) where
  a : α
  b : β
  deriving DecidableEq
structure H3 (α β γ : Type) where
  a : α
  b : β
  c : γ
  deriving DecidableEq
structure H4 (α β γ δ : Type) where
  a : α
  b : β
  c : γ
  d : δ
  deriving DecidableEq
structure H5 (α β γ δ ε : Type) where
  a : α
  b : β
  c : γ
  d : δ
  e : ε
  deriving DecidableEq
instance {α β : Type} [Py α] [Py β] : Hc (H2 α β) := ⟨fun p => [toPy p.a, toPy p.b]⟩
instance {α β γ : Type} [Py α] [Py β] [Py γ] : Hc (H3 α β γ) := ⟨fun p => [toPy p.a, toPy p.b, toPy p.c]⟩
instance {α β γ δ : Type} [Py α] [Py β] [Py γ] [Py δ] : Hc (H4 α β γ δ) := ⟨fun p => [toPy p.a, toPy p.b, toPy p.c, toPy p.d]⟩
instance {α β γ δ ε : Type} [Py α] [Py β] [Py γ] [Py δ] [Py ε] : Hc (H5 α β γ δ ε) := ⟨fun p => [toPy p.a, toPy p.b, toPy p.c, toPy p.d, toPy p.e]⟩
instance {α : Type} [Hc α] : Py α := ⟨fun p => .list (Hc.cs p)⟩
variable {η : Type} [Hc η]
def OH (K : PySem.W.Frag) (Ho : Hp) (v : V) (x : η) (g : Grp) : Prop := ∃ p vs, v = .ref p ∧ DqAll K Ho vs (Hc.cs x) ∧ g = [(p, .lst vs)]
theorem OH.mo {v : V} {x : η} {g : Grp} (h : OH K Ho v x g) (e : Same Ho Ho') : OH K Ho' v x g := by
  obtain ⟨p, vs, rfl, d, rfl⟩ := h
  exact ⟨p, vs, rfl, dpAll_mono e _ _ d, rfl⟩
theorem atI_dq {vs : List V} {ds : List PyData} {i : Int} {d : PyData} (h : DqAll K H vs ds) (e : atI ds i = some d) : ∃ v, atI vs i = some v ∧ Dq K H v d := by
  unfold atI at e ⊢
  rw [dpAll_len h]
  cases q : ixN ds.length i with
  | none => rw [q] at e; cases e
  | some j => rw [q] at e; exact dpAll_get h e
theorem h_ix {x : η} {y : β} {i : Int} {g : Grp} (o : OH K Ho v x g) (z : Zs (g ++ R) H Ho) (hj : atI (Hc.cs x) i = some (toPy y)) (k : ∀ w, Z.D K Ho w y → Q w H) : rIxL K v (.int i) H Q := by
  obtain ⟨p, vs, rfl, d, rfl⟩ := o
  obtain ⟨w, ew, dw⟩ := atI_dq d hj
  exact ⟨p, vs, i, w, rfl, rfl, SqL.of z.head, ew, k w dw⟩
theorem h_st {x y : η} {e : β} {i : Int} {j : Nat} {g : Grp} {QH : Hp → Prop} (z : Zs (g ++ R) H Ho) (o : OH K Ho v x g) (dx : Z.D K Ho w e) (hj : ixN (Hc.cs x).length i = some j) (hy : Hc.cs y = (Hc.cs x).set j (toPy e)) (k : ∀ g' H', Zs (g' ++ R) H' Ho → OH K Ho v y g' → QH H') : rSetL v (.int i) w H QH := by
  obtain ⟨p, vs, rfl, d, rfl⟩ := o
  refine ⟨p, vs, i, j, rfl, rfl, z.head, by rw [dpAll_len d]; exact hj, k _ _ z.put ⟨p, _, rfl, ?_, rfl⟩⟩
  rw [hy]
  exact dpAll_set d dx j
theorem OH.fr {x : η} {g : Grp} (h : OH K Ho v x g) (z : Zs (g ++ R) H Ho) : ∃ Ho', Same Ho Ho' ∧ Zs R H Ho' ∧ Z.D K Ho' v x := by
  obtain ⟨p, vs, rfl, d, rfl⟩ := h
  have z : Zs ((p, .lst vs) :: R) H Ho := z
  have e : Same Ho (upd Ho p (.lst vs)) := Same.new z.headN
  exact ⟨_, e, z.freeze, .lst (SqL.of upd_same) (dpAll_mono e _ _ d)⟩
theorem h_fr {P : Prop} {x : η} {g : Grp} (o : OH K Ho v x g) (z : Zs (g ++ R) H Ho) (k : ∀ Ho', Same Ho Ho' → Zs R H Ho' → Z.D K Ho' v x → P) : P := by
  obtain ⟨Ho', e, z', d⟩ := o.fr z
  exact k Ho' e z' d
theorem h_nm {P : Prop} {e : η} {g : Grp} {f : η → W γ} (hw : (W.bind (W.ret e) f).run Φ) (o : OH K Ho v e g) (k : ∀ x, OH K Ho v x g → (f x).run Φ → P) : P := k e o hw
theorem h_nmL {P : Prop} {e : List α} {g : Grp} {f : List α → W γ} (hw : (W.bind (W.ret e) f).run Φ) (o : OL K Ho v e g) (k : ∀ x, OL K Ho v x g → (f x).run Φ → P) : P := k e o hw
theorem h_o {G : V → Prop} {e : η} {g : Grp} {f : η → W γ} (hw : (W.bind (W.ret e) f).run Φ) (z : Zs (g ++ R) H Ho) (o : OH K Ho v e g) (k : ∀ x v g, Zs (g ++ R) H Ho → OH K Ho v x g → (f x).run Φ → G v) : LetV G v := k e v g z o hw
/-- the display [a, b, ..] of unlike things -/
theorem h_lst {vs : List V} {x : η} (z : Zs R H Ho) (hx : DqAll K Ho vs (Hc.cs x)) (hl : vs.length ≤ sizeLine) (k : ∀ H' p g, Zs (g ++ R) H' Ho → OH K Ho (.ref p) x g → Q (.ref p) H') : vs.length ≤ sizeLine ∧ ∀ p, H p = none → Q (.ref p) (upd H p (.lst vs)) :=
  ⟨hl, fun p hp => k _ p _ (z.root hp) ⟨p, _, rfl, hx, rfl⟩⟩
end
end
section
variable {K : PySem.W.Frag} {H Ho H' Ho' : Hp} {α β γ : Type} [Py α] [Py β] {Φ : γ → Prop} {R rs : Grp} {v w : V} {Q : VK} {σ : L2.St}
theorem y_get {P : Prop} {x : Option β} {f : β → W γ} (d : Z.D K Ho v x) (hw : (W.bind (W.opt x) f).run Φ) (k : ∀ t, Z.D K Ho v t → (f t).run Φ → P) : P := by
  obtain ⟨t, rfl, hw⟩ := hw
  exact k t d hw
theorem y_lstRg {te : L2.St → Hp → (Int → Int → Hp → Prop) → Prop} (k : te σ H fun a b H1 => RgOk a b ∧ ∀ q, H1 q = none → Q (.ref q) (upd H1 q (.lst (rgV a b)))) : tLstRg te σ H Q := k
theorem y_rg1 {ta : TE} {QR : Int → Int → Hp → Prop} (k : ta σ H fun x H1 => ∃ n, x = .int n ∧ QR 0 n H1) : tRg1 ta σ H QR := k
theorem y_rg2 {ta tb : TE} {QR : Int → Int → Hp → Prop} (k : ta σ H fun x H1 => tb σ H1 fun y H2 => ∃ i j, x = .int i ∧ y = .int j ∧ QR i j H2) : tRg2 ta tb σ H QR := k
theorem y_rg1v {QR : Int → Int → Hp → Prop} {n : Int} (k : QR 0 n H) : ∃ m, V.int n = .int m ∧ QR 0 m H := ⟨n, rfl, k⟩
theorem y_rg2v {QR : Int → Int → Hp → Prop} {i j : Int} (k : QR i j H) : ∃ i' j', V.int i = .int i' ∧ V.int j = .int j' ∧ QR i' j' H := ⟨i, j, rfl, rfl, k⟩
theorem rgV_rng {a b : Int} : rgV a b = (rng a b).map V.int := by
  unfold rgV rng
  rw [List.map_map]
  rfl
theorem y_listR {a b : Int} (z : Zs rs H Ho) (hg : RgOk a b) (k : ∀ H' p ws, Zs ((p, .lst ws) :: rs) H' Ho → DL K Ho ws (rng a b) → Q (.ref p) H') : RgOk a b ∧ ∀ q, H q = none → Q (.ref q) (upd H q (.lst (rgV a b))) :=
  ⟨hg, fun q hq => by rw [rgV_rng]; exact k _ q _ (z.root hq) ints_dl⟩
theorem dpAll_lenT {x : α} {ds : List PyData} (hx : toPy x = .tuple ds) (d : Z.D K Ho v x) (z : Zs rs H Ho) (k : Q (.int (ds.length : Int)) H) : rLenZ K [v] H Q := by
  have d : Dq K Ho v (toPy x) := d
  rw [hx] at d
  cases d with
  | tup hs ha =>
    refine ⟨_, _, rfl, .inr (SqT.of (z.le _ _ hs)), ?_⟩
    rw [dpAll_len ha]; exact k
end
/-! ### what is asked of a value, not taken apart too early -/
section
variable {K : PySem.W.Frag} {H Ho H' Ho' : Hp} {α β γ : Type} [Py α] [Py β] {Φ : γ → Prop} {rs r0 : Grp} {v w u : V} {vs : List V} {Q : VK} {σ : L2.St} {ts : TA} {te : TE} {R : It → Hp → Prop}
def LstK (Q : VK) (vs : List V) (H : Hp) : Prop := vs.length ≤ sizeLine ∧ ∀ p, H p = none → Q (.ref p) (upd H p (.lst vs))
def TupK (Q : VK) (vs : List V) (H : Hp) : Prop := vs.length ≤ sizeLine ∧ ∀ p, H p = none → Q (.ref p) (upd H p (.tup vs))
def RgK (Q : VK) (a b : Int) (H : Hp) : Prop := RgOk a b ∧ ∀ q, H q = none → Q (.ref q) (upd H q (.lst (rgV a b)))
theorem k_lst (k : ts σ H fun xs H1 => LstK Q xs H1) : tLst ts σ H Q := k
theorem k_tup (k : ts σ H fun xs H1 => TupK Q xs H1) : tTup ts σ H Q := k
theorem k_lstk {xs : List α} (z : Zs rs H Ho) (d : DL K Ho vs xs) (hl : vs.length ≤ sizeLine) (k : ∀ H' p ws, Zs ((p, .lst ws) :: rs) H' Ho → DL K Ho ws xs → Q (.ref p) H') : LstK Q vs H := y_lstk z d hl k
theorem k_tupk {x : α} (z : Zs rs H Ho) (hl : vs.length ≤ sizeLine) (ds : List PyData) (hx : toPy x = .tuple ds) (d : DqAll K Ho vs ds) (k : ∀ p H' Ho', Same Ho Ho' → Zs rs H' Ho' → Z.D K Ho' (.ref p) x → Q (.ref p) H') : TupK Q vs H := y_tupk z hl ds hx d k
theorem k_hlst {η : Type} [Hc η] {x : η} (z : Zs rs H Ho) (hx : DqAll K Ho vs (Hc.cs x)) (hl : vs.length ≤ sizeLine) (k : ∀ H' p g, Zs (g ++ rs) H' Ho → OH K Ho (.ref p) x g → Q (.ref p) H') : LstK Q vs H := h_lst z hx hl k
theorem k_lstRg {tr : L2.St → Hp → (Int → Int → Hp → Prop) → Prop} (k : tr σ H fun a b H1 => RgK Q a b H1) : tLstRg tr σ H Q := k
theorem k_listR {a b : Int} (z : Zs rs H Ho) (hg : RgOk a b) (k : ∀ H' p ws, Zs ((p, .lst ws) :: rs) H' Ho → DL K Ho ws (rng a b) → Q (.ref p) H') : RgK Q a b H := y_listR z hg k
def SrcL (K : PySem.W.Frag) (R : It → Hp → Prop) (x : V) (H : Hp) : Prop := ∃ a, x = .ref a ∧ (∃ xs, SqL K H a xs) ∧ R (Itl K a) H
def SrcT (K : PySem.W.Frag) (R : It → Hp → Prop) (x : V) (H : Hp) : Prop := ∃ a, x = .ref a ∧ (∃ xs, SqT K H a xs) ∧ R (Itt K a) H
def Src1 (R : It → Hp → Prop) (vs : List V) (H : Hp) : Prop := ∃ j : Int, vs = [.int j] ∧ -(2 ^ 62) ≤ j ∧ j < 2 ^ 62 ∧ R (Itr 0 j.toNat) H
def Src2 (R : It → Hp → Prop) (vs : List V) (H : Hp) : Prop := ∃ i j : Int, vs = [.int i, .int j] ∧ (-(2 ^ 62) ≤ i ∧ i < 2 ^ 62 ∧ -(2 ^ 62) ≤ j ∧ j < 2 ^ 62) ∧ R (Itr i (j - i).toNat) H
def Src3 (R : It → Hp → Prop) (vs : List V) (H : Hp) : Prop := ∃ (a b c : Int) (n : Nat), vs = [.int a, .int b, .int c] ∧ RgC a b c n ∧ R (Itc a c n) H
def SrcZ (K : PySem.W.Frag) (R : It → Hp → Prop) (vs : List V) (H : Hp) : Prop := ∃ a b xs ys, vs = [.ref a, .ref b] ∧ SqL K H a xs ∧ SqL K H b ys ∧ R (Itz K a b) H
def SrcE (K : PySem.W.Frag) (R : It → Hp → Prop) (vs : List V) (H : Hp) : Prop := ∃ a xs, vs = [.ref a] ∧ SqL K H a xs ∧ R (Ite K a) H
def SrcV (K : PySem.W.Frag) (R : It → Hp → Prop) (vs : List V) (H : Hp) : Prop := ∃ a xs, vs = [.ref a] ∧ SqL K H a xs ∧ R (Itv K a xs.length) H
theorem k_iList (k : te σ H fun x H1 => SrcL K R x H1) : iList K te σ H R := k
theorem k_iTup (k : te σ H fun x H1 => SrcT K R x H1) : iTup K te σ H R := k
theorem k_iR1 (k : ts σ H fun vs H1 => Src1 R vs H1) : iRng1 ts σ H R := k
theorem k_iR2 (k : ts σ H fun vs H1 => Src2 R vs H1) : iRng2 ts σ H R := k
theorem k_iR3 (k : ts σ H fun vs H1 => Src3 R vs H1) : iRng3 ts σ H R := k
theorem k_iZip (k : ts σ H fun vs H1 => SrcZ K R vs H1) : iZip K ts σ H R := k
theorem k_iEnum (k : ts σ H fun vs H1 => SrcE K R vs H1) : iEnum K ts σ H R := k
theorem k_iRev (k : ts σ H fun vs H1 => SrcV K R vs H1) : iRev K ts σ H R := k
theorem k_srcL {xs : List α} (d : LV K r0 Ho v xs) (hs : ∀ r ∈ r0, r ∈ rs) (z : Zs rs H Ho) (k : ∀ J, Trn K r0 J xs Ho → R J H) : SrcL K R v H := y_srcL d hs z k
theorem k_srcT {x : β} {xs : List α} (d : Z.D K Ho v x) (hf : toPy x = .tuple (xs.map Py.toPy)) (z : Zs rs H Ho) (k : ∀ J, Trn K [] J xs Ho → R J H) : SrcT K R v H := y_srcT d hf z k
theorem k_srcR1 {n : Int} (hg : rngOk 0 n) (k : ∀ J, Trn K [] J (rng 0 n) Ho → R J H) : Src1 R [V.int n] H := y_srcR1 hg k
theorem k_srcR2 {a b : Int} (hg : rngOk a b) (k : ∀ J, Trn K [] J (rng a b) Ho → R J H) : Src2 R [V.int a, V.int b] H := y_srcR2 hg k
theorem k_srcR3 {a b : Int} (hg : rngOk b a) (k : ∀ J, Trn K [] J (rngD a b) Ho → R J H) : Src3 R [V.int a, V.int b, V.int (-1)] H := y_srcR3 hg k
theorem k_srcZ {xs : List α} {ys : List β} (d : LV K r0 Ho v xs) (d' : LV K r0 Ho u ys) (hs : ∀ r ∈ r0, r ∈ rs) (z : Zs rs H Ho) (k : ∀ J, Trn K r0 J (xs.zip ys) Ho → R J H) : SrcZ K R [v, u] H := y_srcZ d d' hs z k
theorem k_srcE {xs : List α} (d : LV K r0 Ho v xs) (hs : ∀ r ∈ r0, r ∈ rs) (z : Zs rs H Ho) (k : ∀ J, Trn K r0 J (enumZ xs) Ho → R J H) : SrcE K R [v] H := y_srcE d hs z k
theorem k_srcV {xs : List α} (d : LV K r0 Ho v xs) (hs : ∀ r ∈ r0, r ∈ rs) (z : Zs rs H Ho) (k : ∀ J, Trn K r0 J xs.reverse Ho → R J H) : SrcV K R [v] H := y_srcV d hs z k
theorem y_nxS {D : Ends} {u : TS} (k : u D σ H) : tNext { D with nx := u D } σ H := k
end
section
variable {K : PySem.W.Frag} {H Ho H' Ho' : Hp} {α β γ : Type} [Py α] [Py β] {Φ : γ → Prop} {rs R : Grp} {v w : V} {Q : VK} {σ : L2.St} {ta : TA} {D : Ends} {u : TS} {i j : Nat}
theorem not_isNone {x : Option β} : (!x.isNone) = x.isSome := by cases x <;> rfl
def rInsert : V → List V → Hp → VK → Prop := fun x vs H Q => ∃ (l : Addr) (xs : List V) (i : Int) (y : V), x = .ref l ∧ vs = [.int i, y] ∧ H l = some (.lst xs) ∧ xs.length < sizeLine ∧ 0 ≤ i ∧ i < 2 ^ 63 ∧ Q .non (upd H l (.lst (xs.take i.toNat ++ [y] ++ xs.drop i.toNat)))
theorem zmt_insert {X : Cx} : MtR X "list.insert" rInsert := mt_insert
theorem k_ins {xs : List α} {x : α} {i : Int} {g : Grp} {f : List α → W γ} (z : Zs (g ++ R) H Ho) (o : OL K Ho v xs g) (dx : Z.D K Ho w x) (hw : (W.bind (insL xs i x) f).run Φ) (k : ∀ xs' g' H', Zs (g' ++ R) H' Ho → OL K Ho v xs' g' → (f xs').run Φ → Q .non H') : rInsert v [.int i, w] H Q := g_ins z o dx hw k
def Par2 (G : V → V → Prop) (vs : List V) : Prop := ∃ v w, vs = [v, w] ∧ G v w
theorem l_par (σ' : V → V → L2.St) (hσ : ∀ v w, (σ.set i (some v)).set j (some w) = σ' v w) (k : ta σ H fun vs H1 => Par2 (fun v w => u D (σ' v w) H1) vs) : tSeq (tPar i j ta) u D σ H := by
  have e : (fun vs H1 => Par2 (fun v w => u D (σ' v w) H1) vs) = fun vs H1 => ∃ v w, vs = [v, w] ∧ u D ((σ.set i (some v)).set j (some w)) H1 := by
    funext vs H1
    unfold Par2
    simp only [hσ]
  rw [e] at k
  exact k
theorem l_par2 {G : V → V → Prop} (k : LetV (fun v => LetV (fun w => G v w) w) v) : Par2 G [v, w] := ⟨v, w, rfl, k⟩
end
section
variable {K : PySem.W.Frag} {H Ho : Hp} {rs : Grp} {vs : List V} {Q : VK} {σ : L2.St} {ts : TA}
theorem k_tcs {QV : VK} (z : Zs rs H Ho) (ht : TCs ts vs) (hl : vs.length ≤ sizeLine) (k : ∀ p H' Ho', Same Ho Ho' → Zs rs H' Ho' → H' p = some (.tup vs) → QV (.ref p) H') : tTup ts σ H QV :=
  ht.run ⟨hl, fun p hp => k p _ _ (Same.new (z.free hp)) (z.alloc hp) upd_same⟩
theorem k_isXT {cl : Nat → Addr} {n : Nat} {a p : Addr} {us : List Value} {b : Bool} (hp : H p = some (.tup vs)) (xc : ExcC K (cl n)) (k : Paired ClsV vs us) (e : PySem.W.kitAny K (.ref (cl n)) us = some b) (q : Q (.bl b) H) : rIsXT K a (.ref (cl n)) none [.ref a, .ref p] H Q :=
  ⟨_, p, vs, us, b, rfl, rfl, rfl, hp, k, xc, e, q⟩
end
end Z

/-! # dicts with int keys and with keys of two ints -/
namespace Z
open PySem L2
theorem room1 {k : Nat} {A : Around} (r : Room k A) : A.units + 1 < cLine := by have := r.un; omega
abbrev Dc (κ α : Type) := List (κ × α)
section
variable {κ α : Type} [DecidableEq κ]
def valM (m : Dc κ α) (k : κ) : Option α := (m.find? fun p => decide (p.1 = k)).map (·.2)
def putM (m : Dc κ α) (k : κ) (a : α) : Dc κ α := if (m.any fun p => decide (p.1 = k)) = true then m.map (fun p => if p.1 = k then (p.1, a) else p) else m ++ [(k, a)]
def putG (m : Dc κ α) (k : κ) (a : α) : W (Dc κ α) := W.guard (m.length < sizeLine) (W.ret (putM m k a))
end
class DKey (κ : Type) [Py κ] where
  kt : Type
  dec : DecidableEq kt
  key : κ → kt
  inj : ∀ {a b : κ}, key a = key b → a = b
  ho : List (kt × V) → HO
  nt : ∀ kvs, NotTup (ho kvs) := by intro kvs; exact trivial
  get : ∀ {K : PySem.W.Frag} {H Ho : Hp} {v : V} {k : κ} {p : Addr} {kvs : List (kt × V)}, H p = some (ho kvs) → Same Ho H → Z.D K Ho v k → DGet H p v (@valV kt dec kvs (key k))
  put : ∀ {K : PySem.W.Frag} {H Ho : Hp} {v y : V} {k : κ} {p : Addr} {kvs : List (kt × V)}, H p = some (ho kvs) → Same Ho H → Z.D K Ho v k → kvs.length < sizeLine → DPut H p v y (upd H p (ho (@putK kt dec kvs (key k) y)))
  isd : ∀ {H : Hp} {p : Addr} {kvs : List (kt × V)}, H p = some (ho kvs) → IsD H p
instance : DKey Int where
  kt := L2.Key
  dec := inferInstance
  key i := .inl i
  inj h := by cases h; rfl
  ho := .dK
  get e _ d := by rw [d_int d]; exact DGet.k (k := .inl _) e
  put e _ d h := by rw [d_int d]; exact DPut.k (k := .inl _) e h
  isd e := .inl ⟨_, .inl e⟩
instance : DKey (Int × Int) where
  kt := List L2.Key
  dec := inferInstance
  key p := [.inl p.1, .inl p.2]
  inj h := by
    rename_i a b
    obtain ⟨a1, a2⟩ := a
    obtain ⟨b1, b2⟩ := b
    simp only [List.cons.injEq, Sum.inl.injEq, and_true] at h
    rw [h.1, h.2]
  ho := .dT
  get e s d := by
    cases d with
    | tup hs ha =>
      cases ha with
      | cons h1 h2 =>
        cases h2 with
        | cons h3 h4 =>
          cases h4
          rw [d_int h1, d_int h3] at hs
          exact DGet.t e (s _ _ hs)
  put e s d h := by
    cases d with
    | tup hs ha =>
      cases ha with
      | cons h1 h2 =>
        cases h2 with
        | cons h3 h4 =>
          cases h4
          rw [d_int h1, d_int h3] at hs
          exact DPut.t e (s _ _ hs) h
  isd e := .inr ⟨_, .inl e⟩
section
variable {K : PySem.W.Frag} {H Ho H' Ho' : Hp} {κ α γ : Type} [Py κ] [DecidableEq κ] [DKey κ] [Py α] {Φ : γ → Prop} {R : Grp} {v w u : V} {Q : VK} {σ : L2.St}

def DM (K : PySem.W.Frag) (Ho : Hp) (kvs : List (DKey.kt κ × V)) (m : Dc κ α) : Prop := kvs.map (·.1) = m.map (fun p => DKey.key p.1) ∧ DL K Ho (kvs.map (·.2)) (m.map (·.2))
theorem DM.len {kvs : List (DKey.kt κ × V)} {m : Dc κ α} (h : DM K Ho kvs m) : kvs.length = m.length := by
  have := congrArg List.length h.1
  simpa using this
theorem DM.val : ∀ {kvs : List (DKey.kt κ × V)} {m : Dc κ α}, DM K Ho kvs m → ∀ k : κ, (valM m k = none → @valV _ DKey.dec kvs (DKey.key k) = none) ∧ ∀ a, valM m k = some a → ∃ x, @valV _ DKey.dec kvs (DKey.key k) = some x ∧ Z.D K Ho x a
  | [], [], _, k => ⟨fun _ => rfl, fun a e => by cases e⟩
  | [], _ :: _, h, _ => by cases h.1
  | _ :: _, [], h, _ => by cases h.1
  | (k1, x) :: kvs, (k2, a) :: m, h, k => by
    obtain ⟨h1, h2⟩ := h
    simp only [List.map_cons, List.cons.injEq] at h1
    cases h2 with
    | cons d ds =>
      have ih := DM.val (kvs := kvs) (m := m) ⟨h1.2, ds⟩ k
      by_cases c : k2 = k
      · have e1 : valM ((k2, a) :: m) k = some a := by simp [valM, List.find?_cons, c]
        have e2 : @valV _ DKey.dec ((k1, x) :: kvs) (DKey.key k) = some x := @valV_pos _ DKey.dec (k1, x) kvs (DKey.key k) (by rw [← c]; exact h1.1)
        rw [e1, e2]
        exact ⟨fun z => (nomatch z), fun b e => ⟨x, rfl, by cases e; exact d⟩⟩
      · have e1 : valM ((k2, a) :: m) k = valM m k := by simp [valM, List.find?_cons, c]
        have e2 : @valV _ DKey.dec ((k1, x) :: kvs) (DKey.key k) = @valV _ DKey.dec kvs (DKey.key k) := @valV_neg _ DKey.dec (k1, x) kvs (DKey.key k) (fun z => c (DKey.inj (h1.1.symm.trans z)))
        rw [e1, e2]
        exact ih
theorem valM_any (k : κ) : ∀ m : Dc κ α, (m.any fun p => decide (p.1 = k)) = (valM m k).isSome
  | [] => rfl
  | p :: r => by
    rw [List.any_cons]
    by_cases e : p.1 = k
    · have : valM (p :: r) k = some p.2 := by simp [valM, List.find?_cons, e]
      rw [this, decide_eq_true e]; rfl
    · have : valM (p :: r) k = valM r k := by simp [valM, List.find?_cons, e]
      rw [this, decide_eq_false e, Bool.false_or, valM_any k r]
theorem DM.some {kvs : List (DKey.kt κ × V)} {m : Dc κ α} (h : DM K Ho kvs m) (k : κ) : (@valV _ DKey.dec kvs (DKey.key k)).isSome = (valM m k).isSome := by
  obtain ⟨h1, h2⟩ := h.val k
  cases e : valM m k with
  | none => rw [h1 e]; rfl
  | some a => obtain ⟨x, ex, _⟩ := h2 a e; rw [ex]; rfl
theorem DM.mapped {x : V} {a : α} (k : κ) (d : Z.D K Ho x a) : ∀ {kvs : List (DKey.kt κ × V)} {m : Dc κ α}, DM K Ho kvs m →
    DM K Ho (kvs.map fun kv => @ite _ (kv.1 = DKey.key k) (DKey.dec kv.1 (DKey.key k)) (kv.1, x) kv) (m.map fun p => if p.1 = k then (p.1, a) else p)
  | [], [], _ => ⟨rfl, .nil⟩
  | [], _ :: _, h => by cases h.1
  | _ :: _, [], h => by cases h.1
  | (k1, y) :: kvs, (k2, b) :: m, h => by
    obtain ⟨h1, h2⟩ := h
    simp only [List.map_cons, List.cons.injEq] at h1
    cases h2 with
    | cons e es =>
      obtain ⟨i1, i2⟩ := DM.mapped k d (kvs := kvs) (m := m) ⟨h1.2, es⟩
      by_cases c : k2 = k
      · have c' : k1 = DKey.key k := by rw [← c]; exact h1.1
        refine ⟨?_, ?_⟩
        · rw [List.map_cons, List.map_cons, List.map_cons, List.map_cons, i1, if_pos c, if_pos c']
          show k1 :: _ = DKey.key k2 :: _
          rw [h1.1]
        · rw [List.map_cons, List.map_cons, List.map_cons, List.map_cons, if_pos c, if_pos c']
          exact .cons d i2
      · have c' : ¬ k1 = DKey.key k := fun z => c (DKey.inj (h1.1.symm.trans z))
        refine ⟨?_, ?_⟩
        · rw [List.map_cons, List.map_cons, List.map_cons, List.map_cons, i1, if_neg c, if_neg c']
          show k1 :: _ = DKey.key k2 :: _
          rw [h1.1]
        · rw [List.map_cons, List.map_cons, List.map_cons, List.map_cons, if_neg c, if_neg c']
          exact .cons e i2
theorem DM.put {x : V} {a : α} {k : κ} {kvs : List (DKey.kt κ × V)} {m : Dc κ α} (h : DM K Ho kvs m) (d : Z.D K Ho x a) : DM K Ho (@putK _ DKey.dec kvs (DKey.key k) x) (putM m k a) := by
  unfold putK putM
  rw [@valV_any _ DKey.dec, valM_any, h.some k]
  split
  · exact DM.mapped k d h
  · refine ⟨?_, ?_⟩
    · rw [List.map_append, List.map_append, h.1]; rfl
    · rw [List.map_append, List.map_append]
      exact DL.push h.2 d
theorem DM.mo {kvs : List (DKey.kt κ × V)} {m : Dc κ α} (h : DM K Ho kvs m) (e : Same Ho Ho') : DM K Ho' kvs m := ⟨h.1, DL.mo h.2 e⟩
/-- a dict of its own -/
def OD (K : PySem.W.Frag) (Ho : Hp) (v : V) (m : Dc κ α) (g : Grp) : Prop := ∃ p kvs, v = .ref p ∧ DM K Ho kvs m ∧ g = [(p, DKey.ho (κ := κ) kvs)]
theorem OD.mo {m : Dc κ α} {g : Grp} (h : OD K Ho v m g) (e : Same Ho Ho') : OD K Ho' v m g := by
  obtain ⟨p, kvs, rfl, d, rfl⟩ := h
  exact ⟨p, kvs, rfl, d.mo e, rfl⟩
/-- a dict that is read -/
def BD (K : PySem.W.Frag) (R : Grp) (Ho : Hp) (v : V) (m : Dc κ α) : Prop := ∃ g, OD K Ho v m g ∧ ∀ r ∈ g, r ∈ R
theorem BD.mo {m : Dc κ α} (h : BD K R Ho v m) (e : Same Ho Ho') : BD K R Ho' v m := by
  obtain ⟨g, o, s⟩ := h
  exact ⟨g, o.mo e, s⟩
theorem BD.sub {m : Dc κ α} {R' : Grp} (h : BD K R Ho v m) (e : ∀ r ∈ R, r ∈ R') : BD K R' Ho v m := by
  obtain ⟨g, o, s⟩ := h
  exact ⟨g, o, fun r m => e r (s r m)⟩
theorem BD.rd {m : Dc κ α} (h : BD K R Ho v m) (z : Zs R H Ho) : ∃ p kvs, v = .ref p ∧ DM K Ho kvs m ∧ H p = some (DKey.ho (κ := κ) kvs) := by
  obtain ⟨g, ⟨p, kvs, rfl, d, rfl⟩, s⟩ := h
  exact ⟨p, kvs, rfl, d, (z.rt _ (s _ (List.mem_singleton.mpr rfl))).1⟩
theorem d_o {G : V → Prop} {e : Dc κ α} {g : Grp} {f : Dc κ α → W γ} (hw : (W.bind (W.ret e) f).run Φ) (z : Zs (g ++ R) H Ho) (o : OD K Ho v e g) (k : ∀ x v g, Zs (g ++ R) H Ho → OD K Ho v x g → (f x).run Φ → G v) : LetV G v := k e v g z o hw
theorem g_dnewK (z : Zs R H Ho) (k : ∀ H' v g, Zs (g ++ R) H' Ho → OD K Ho v ([] : Dc Int α) g → Q v H') : tDNewK σ H Q := fun p hp => k _ _ _ (z.root hp) ⟨p, [], rfl, ⟨rfl, .nil⟩, rfl⟩
theorem g_dnewT (z : Zs R H Ho) (k : ∀ H' v g, Zs (g ++ R) H' Ho → OD K Ho v ([] : Dc (Int × Int) α) g → Q v H') : tDNewT σ H Q := fun p hp => k _ _ _ (z.root hp) ⟨p, [], rfl, ⟨rfl, .nil⟩, rfl⟩
/-! reading -/
theorem zsl_tup {X : Cx} (hK : X.K = K) : SlR X (rSlT K) := hK ▸ sl_tup
theorem dpAll_cut {vs : List V} {ds : List PyData} (h : DqAll K H vs ds) (lo hi : Option Int) : DqAll K H (cutV vs lo hi) (Z.cut ds lo hi) := by
  unfold cutV Z.cut
  rw [dpAll_len h]
  exact dpAll_take (dpAll_drop h _) _
theorem y_slT {β δ : Type} [Py β] [Py δ] {x : β} {y : δ} {lo hi : Option Int} (d : Z.D K Ho v x) (z : Zs R H Ho) (hj : ∃ ds, toPy x = .tuple ds ∧ ¬ (HT.sIx ds.length 0 lo = 0 ∧ HT.sIx ds.length ds.length hi = ds.length) ∧ toPy y = .tuple (Z.cut ds lo hi))
    (k : ∀ p H' Ho', Same Ho Ho' → Zs R H' Ho' → Z.D K Ho' (.ref p) y → Q (.ref p) H') : rSlT K v lo hi H Q := by
  obtain ⟨ds, e1, e2, e3⟩ := hj
  have d : Dq K Ho v (toPy x) := d
  rw [e1] at d
  cases d with
  | tup hs ha =>
    refine ⟨_, _, rfl, SqT.of (z.le _ _ hs), by rw [dpAll_len ha]; exact e2, fun q hq => ?_⟩
    have nf := z.free hq
    refine k q _ _ (Same.new nf) (z.alloc hq) ?_
    show Dq K _ _ (toPy y)
    rw [e3]
    exact .tup upd_same (dpAll_mono (Same.new nf) _ _ (dpAll_cut ha lo hi))
/-! tuples of one kind, of any length -/
theorem zsl_tupA {X : Cx} (hK : X.K = K) : SlR X (rSlA K) := hK ▸ sl_tupA
theorem zop_catA {X : Cx} (hK : X.K = K) : OpR X (binaryOp .Add) (rCatA K) := hK ▸ op_catA
theorem y_slTp {β : Type} [Py β] {x : Tp β} {lo hi : Option Int} (d : Z.D K Ho v x) (z : Zs R H Ho) (k : ∀ w H' Ho', Same Ho Ho' → Zs R H' Ho' → Z.D K Ho' w (⟨Z.cut x.l lo hi⟩ : Tp β) → Q w H') : rSlA K v lo hi H Q := by
  have d0 := d
  cases d with
  | tup hs ha =>
    have hl : _ = x.l.length := (dpAll_len ha).trans (by simp)
    refine ⟨_, _, rfl, SqT.of (z.le _ _ hs), fun hw => ?_, fun hn q hq => ?_⟩
    · refine k _ _ _ (Same.refl _) z ?_
      have e : Z.cut x.l lo hi = x.l := by
        unfold Z.cut
        rw [← hl, hw.1, hw.2]
        simp [hl]
      show Z.D K Ho _ (⟨Z.cut x.l lo hi⟩ : Tp β)
      rw [e]
      exact d0
    · have nf := z.free hq
      refine k (.ref q) _ _ (Same.new nf) (z.alloc hq) ?_
      exact .tup upd_same (dpAll_mono (Same.new nf) _ _ (DL.cut (xs := x.l) ha lo hi))
theorem y_catTp {β : Type} [Py β] {x y : Tp β} (d1 : Z.D K Ho v x) (d2 : Z.D K Ho w y) (z : Zs R H Ho) (hg : x.l.length + y.l.length ≤ sizeLine) (k : ∀ u H' Ho', Same Ho Ho' → Zs R H' Ho' → Z.D K Ho' u (⟨x.l ++ y.l⟩ : Tp β) → Q u H') : rCatA K v w H Q := by
  have d1' := d1
  have d2' := d2
  obtain ⟨xs⟩ := x
  obtain ⟨ys⟩ := y
  cases d1 with
  | tup hs ha =>
    cases d2 with
    | tup hs2 ha2 =>
      have hl := dpAll_len ha
      have hl2 := dpAll_len ha2
      rw [List.length_map] at hl hl2
      refine ⟨_, _, _, _, rfl, rfl, SqT.of (z.le _ _ hs), SqT.of (z.le _ _ hs2), by rw [hl, hl2]; exact hg, fun e => ?_, fun _ e => ?_, fun _ _ q hq => ?_⟩
      · refine k _ _ _ (Same.refl _) z ?_
        have : xs = [] := List.length_eq_zero_iff.mp (by rw [← hl, e]; rfl)
        subst this
        exact d2'
      · refine k _ _ _ (Same.refl _) z ?_
        have : ys = [] := List.length_eq_zero_iff.mp (by rw [← hl2, e]; rfl)
        subst this
        show Z.D K Ho _ (⟨xs ++ []⟩ : Tp β)
        rw [List.append_nil]
        exact d1'
      · have nf := z.free hq
        refine k (.ref q) _ _ (Same.new nf) (z.alloc hq) ?_
        exact .tup upd_same (dpAll_mono (Same.new nf) _ _ (DL.append (xs := xs) (ys := ys) ha ha2))
def tp4 {β : Type} : Tp β → Option (P4 β β β β)
  | ⟨[a, b, c, d]⟩ => some ⟨a, b, c, d⟩
  | _ => none
theorem y_tp4 {β : Type} [Py β] {x : Tp β} {f : P4 β β β β → W γ} {P : Prop} (d : Z.D K Ho v x) (hw : (W.bind (W.opt (tp4 x)) f).run Φ) (k : ∀ t, Z.D K Ho v t → (f t).run Φ → P) : P := by
  obtain ⟨t, et, hw⟩ := hw
  refine k t ?_ hw
  obtain ⟨l⟩ := x
  match l, et with
  | [a, b, c, e], rfl => exact d
theorem zmt_indexD {X : Cx} (hK : X.K = K) (hu : X.A.units + 65 < cLine) : MtR X "list.index" (rIndexD K) := hK ▸ mt_indexD hu
/-- the first place of an equal one -/
def idxD {β : Type} [Py β] (x : β) (ys : List β) : Option Int := Option.map (fun n : Nat => (n : Int)) (ys.findIdx? fun y => eqD y x)
theorem d_ref {β : Type} [Py β] {ys : List β} : ∀ {v : V}, Z.D K H v ys → ∃ a, v = .ref a := fun {v} h => by
  obtain ⟨p, vs, e, _⟩ := LV.of (rs := []) h
  exact ⟨p, e⟩
theorem y_index {β : Type} [Py β] {x : β} {ys : List β} {f : Int → W γ} (d1 : Z.D K H w x) (d2 : Z.D K H v ys) (hg : okD x ∧ okD ys) (hw : (W.bind (W.opt (idxD x ys)) f).run Φ) (k : ∀ t, (f t).run Φ → Q (.int t) H) : rIndexD K v [w] H Q := by
  obtain ⟨t, et, hw⟩ := hw
  unfold idxD at et
  rw [Option.map_eq_some_iff] at et
  obtain ⟨n, en, rfl⟩ := et
  obtain ⟨hn, h1, h2⟩ := List.findIdx?_eq_some_iff_getElem.mp en
  obtain ⟨a, rfl⟩ := d_ref d2
  refine ⟨a, w, toPy x, ys.map Py.toPy, n, toPy ys[n], rfl, rfl, Dq.dp _ _ (shp hg.2) d2, Dq.dp _ _ (shp hg.1) d1, hg.2, hg.1, by rw [List.getElem?_map, List.getElem?_eq_getElem hn]; rfl, h1, fun m z' hm e => ?_, k n hw⟩
  rw [List.getElem?_map, List.getElem?_eq_getElem (by omega)] at e
  cases e
  simpa [eqD] using h2 m hm
def GGet (Q : VK) (x y : V) (H : Hp) : Prop := ∃ a v, x = .ref a ∧ DGet H a y (some v) ∧ Q v H
def GIn (Q : VK) (x y : V) (H : Hp) : Prop := ∃ a o, x = .ref a ∧ DGet H a y o ∧ Q (.bl o.isSome) H
def GNotIn (Q : VK) (x y : V) (H : Hp) : Prop := ∃ a o, x = .ref a ∧ DGet H a y o ∧ Q (.bl (!o.isSome)) H
def GGet1 (Q : VK) (a : Addr) (y : V) (H : Hp) : Prop := ∃ o, DGet H a y o ∧ Q (o.getD .non) H
def GGet2 (Q : VK) (a : Addr) (y z : V) (H : Hp) : Prop := ∃ o, DGet H a y o ∧ Q (o.getD z) H
def GPut (N : Hp → Prop) (x y v : V) (H : Hp) : Prop := ∃ a H4, x = .ref a ∧ DPut H a y v H4 ∧ N H4
section
variable {td ty tx tv : TE} {un : TS} {D : Ends}
theorem y_dget (k : td σ H fun x H1 => ty σ H1 fun y H2 => GGet Q x y H2) : tDGet td ty σ H Q := k
theorem y_din (k : ty σ H fun y H1 => td σ H1 fun x H2 => GIn Q x y H2) : tDIn ty td σ H Q := k
theorem y_dnotin (k : ty σ H fun y H1 => td σ H1 fun x H2 => GNotIn Q x y H2) : tDNotIn ty td σ H Q := k
theorem y_dget1 (k : td σ H fun x H1 => ∃ a, x = .ref a ∧ IsD H1 a ∧ ty σ H1 fun y H2 => GGet1 Q a y H2) : tDGet1 td ty σ H Q := k
theorem y_dget2 (k : td σ H fun x H1 => ∃ a, x = .ref a ∧ IsD H1 a ∧ ty σ H1 fun y H2 => tx σ H2 fun z H3 => GGet2 Q a y z H3) : tDGet2 td ty tx σ H Q := k
theorem y_dput (k : tv σ H fun v H1 => td σ H1 fun x H2 => ty σ H2 fun y H3 => GPut (fun H4 => un D σ H4) x y v H3) : tSeq (sDPut td ty tv) un D σ H := k
end
theorem g_dget {m : Dc κ α} {k : κ} {f : α → W γ} (b : BD K R Ho v m) (z : Zs R H Ho) (dk : Z.D K Ho w k) (hw : (W.bind (W.opt (valM m k)) f).run Φ) (kk : ∀ t u, Z.D K Ho u t → (f t).run Φ → Q u H) : GGet Q v w H := by
  obtain ⟨p, kvs, rfl, d, e⟩ := b.rd z
  obtain ⟨a, ea, hw⟩ := hw
  obtain ⟨x, ex, dx⟩ := (d.val k).2 a ea
  exact ⟨p, x, rfl, ex ▸ DKey.get e z.le dk, kk a x dx hw⟩
theorem g_din {m : Dc κ α} {k : κ} (b : BD K R Ho v m) (z : Zs R H Ho) (dk : Z.D K Ho w k) (kk : Q (.bl (valM m k).isSome) H) : GIn Q v w H := by
  obtain ⟨p, kvs, rfl, d, e⟩ := b.rd z
  exact ⟨p, _, rfl, DKey.get e z.le dk, by rw [d.some k]; exact kk⟩
theorem g_dnotin {m : Dc κ α} {k : κ} (b : BD K R Ho v m) (z : Zs R H Ho) (dk : Z.D K Ho w k) (kk : Q (.bl (!(valM m k).isSome)) H) : GNotIn Q v w H := by
  obtain ⟨p, kvs, rfl, d, e⟩ := b.rd z
  exact ⟨p, _, rfl, DKey.get e z.le dk, by rw [d.some k]; exact kk⟩
theorem g_isd {m : Dc κ α} {P : Addr → Prop} (b : BD K R Ho v m) (z : Zs R H Ho) (kk : ∀ a, v = .ref a → P a) : ∃ a, v = .ref a ∧ IsD H a ∧ P a := by
  obtain ⟨p, kvs, rfl, d, e⟩ := b.rd z
  exact ⟨p, rfl, DKey.isd e, kk p rfl⟩
theorem g_dget1 {m : Dc κ α} {k : κ} {a : Addr} (ea : v = .ref a) (b : BD K R Ho v m) (z : Zs R H Ho) (dk : Z.D K Ho w k) (kk : ∀ u, Z.D K Ho u (valM m k) → Q u H) : GGet1 Q a w H := by
  obtain ⟨p, kvs, e1, d, e⟩ := b.rd z
  rw [ea] at e1
  cases e1
  refine ⟨_, DKey.get e z.le dk, kk _ ?_⟩
  obtain ⟨h1, h2⟩ := d.val k
  cases q : valM m k with
  | none => rw [h1 q]; exact .non
  | some x => obtain ⟨y, ey, dy⟩ := h2 x q; rw [ey]; exact dy
theorem g_dget2 {m : Dc κ α} {k : κ} {a : Addr} {x : α} (ea : v = .ref a) (b : BD K R Ho v m) (z : Zs R H Ho) (dk : Z.D K Ho w k) (dx : Z.D K Ho u x) (kk : ∀ y, Z.D K Ho y ((valM m k).getD x) → Q y H) : GGet2 Q a w u H := by
  obtain ⟨p, kvs, e1, d, e⟩ := b.rd z
  rw [ea] at e1
  cases e1
  refine ⟨_, DKey.get e z.le dk, kk _ ?_⟩
  obtain ⟨h1, h2⟩ := d.val k
  cases q : valM m k with
  | none => rw [h1 q]; exact dx
  | some x => obtain ⟨y, ey, dy⟩ := h2 x q; rw [ey]; exact dy
theorem g_dput {m : Dc κ α} {k : κ} {x : α} {g : Grp} {N : Hp → Prop} {f : Dc κ α → W γ} (z : Zs (g ++ R) H Ho) (o : OD K Ho v m g) (dk : Z.D K Ho w k) (dx : Z.D K Ho u x) (hw : (W.bind (putG m k x) f).run Φ) (kk : ∀ m' g' H', Zs (g' ++ R) H' Ho → OD K Ho v m' g' → (f m').run Φ → N H') : GPut N v w u H := by
  obtain ⟨p, kvs, rfl, d, rfl⟩ := o
  obtain ⟨hl, hw⟩ := hw
  exact ⟨p, _, rfl, DKey.put z.head z.le dk (by rw [d.len]; exact hl), kk _ _ _ (z.put (hn := DKey.nt _)) ⟨p, _, rfl, d.put dx, rfl⟩ hw⟩
end
end Z

/-! # d.setdefault(k, v), k a tuple -/
namespace Z
open PySem PySem.Spec PyProof.Rows L2
section
variable {X : Cx} {pins : List (Addr × Obj)} {σ : L2.St} {H : Hp} {s : Shared} {a b : Addr} {kvs : List (List L2.Key × V)} {k : List L2.Key} {z : V} {r : Value} {A : Around} {E : Value → Shared → Prop}
theorem d_setdT {Q : Value → Shared → Prop} (hu : A.units + 1 < cLine) (I : Inv X pins σ H s) (e : H a = some (.dT kvs)) (eb : H b = some (.tup (k.map kV))) (l : kvs.length < sizeLine) (rz : RelV z r)
    (h1 : ∀ u w' s', valV kvs k = some u → RelV u w' → Inv X pins σ H s' → Q w' s') (h2 : valV kvs k = none → ∀ s', Inv X pins σ (upd H a (.dT (putK kvs k z))) s' → Q r s') :
    wpAny (model X.prog X.w) A (call (.builtin "dict.setdefault") [.ref a, .ref b, r]) Q E s := by
  obtain ⟨zz, hd, xs, rel, dd⟩ := dt_of I.hok e
  have hz : xs.length ≤ sizeLine := by rw [← Paired.length rel]; exact zz
  have hl : (putK kvs k z).length ≤ sizeLine := by have := length_putK kvs k z; omega
  have rv := rel.val k
  refine call_setdefault_heap (hsz := hz) (tupleKind_room_in1 hu) (key_of I.hok eb) hd dd (fun p hp => ?_) (fun hn h' dd' hs => ?_)
  · rw [hp] at rv
    cases hv : valV kvs k with
    | none => rw [hv] at rv; cases rv
    | some u =>
      rw [hv] at rv
      obtain ⟨w', hw, rw'⟩ := RelO.some_of (v := u) (o := some p.2) rv
      cases hw
      exact h1 u _ _ hv rw' (I.tok _)
  · rw [hn] at rv
    cases hv : valV kvs k with
    | some u =>
      rw [hv] at rv
      obtain ⟨w', hw, _⟩ := RelO.some_of (v := u) (o := none) rv
      cases hw
    | none =>
      refine h2 hv _ ?_
      obtain ⟨q, es, ep, hq, g2, g3, g4, _, g5⟩ := dd'
      refine d_write I (by rw [e]; exact True.intro) hs ⟨q, hq⟩ ⟨hl, hd, _, (rel.put k eb rz).keeps fun c ys ec => ?_, q, es, ep, hq, g2, g3, g4, g5⟩
      rw [upd_ne (ne_of ec e (fun z => nomatch z))]
      exact ec
def tDSetd (td ty tx : TE) : TE := fun σ H Q => td σ H fun x H1 => ∃ a, x = .ref a ∧ IsD H1 a ∧ ty σ H1 fun y H2 => tx σ H2 fun z H3 => ∃ kvs k b, H3 a = some (.dT kvs) ∧ y = .ref b ∧ H3 b = some (.tup (k.map kV)) ∧ kvs.length < sizeLine ∧
  (∀ u, valV kvs k = some u → Q u H3) ∧ (valV kvs k = none → Q z (upd H3 a (.dT (putK kvs k z))))
theorem pe_dsetd {o e f : Expr} {apos cpos : Pos} {td ty tx : TE} (hu : X.A.units + 1 < cLine) (ho : PE X o td) (he : PE X e ty) (hf : PE X f tx) (m : M2 X o "setdefault" apos e f cpos) : PE X (.Call (.Attribute o "setdefault" apos) [e, f] [] cpos) (tDSetd td ty tx) := by
  refine ⟨fun pins s σ H Q I h => ?_⟩
  refine wpAny_Call_method m.base m.few m.line PySem.F.plainAttrs_dict PySem.F.slot_dict_setdefault PySem.F.type_dict_setdefault (thn (ho.run pins s σ H _ I h) fun u s1 ⟨x, H1, I1, rx, a, ex, d, q1⟩ => ?_)
  subst ex
  obtain rfl : u = Value.ref a := rx
  obtain ⟨t1, t2, _⟩ := isD_at I1 d
  refine ⟨t1, t2, ?_⟩
  rw [m.trees]
  refine Calls.callWith_builtin rfl (Calls.evalArgs_plain (Calls.spliced_cons (thn (he.run pins s1 σ H1 _ I1 q1) fun iv s2 ⟨y, H2, I2, ry, q2⟩ =>
    Calls.spliced_cons (thn (hf.run pins s2 σ H2 _ I2 q2) fun fv s3 ⟨z, H3, I3, rz, kvs, k, b, e1, ey, eb, hl, g1, g2⟩ => Calls.spliced_nil ?_))))
  subst ey
  cases (show iv = Value.ref b from ry)
  exact d_setdT hu I3 e1 eb hl rz (fun u w' s4 hv rw' I4 => ⟨u, H3, I4, rw', g1 u hv⟩) fun hv s4 I4 => ⟨z, _, I4, rz, g2 hv⟩
end
end Z

/-! # a dict of its own whose values are lists of its own -/
namespace Z
open PySem L2
section
variable {K : PySem.W.Frag} {H Ho H' Ho' : Hp} {κ α γ : Type} [Py κ] [DecidableEq κ] [DKey κ] [Py α] {Φ : γ → Prop} {R : Grp} {v w u : V} {Q : VK} {σ : L2.St}
/-- an entry: the key, the list's place, what it holds -/
abbrev Ent (κ : Type) [Py κ] [DKey κ] := DKey.kt κ × (Addr × List V)
inductive EM (K : PySem.W.Frag) (Ho : Hp) : List (Ent κ) → Dc κ (List α) → Prop
  | nil : EM K Ho [] []
  | cons {e : Ent κ} {es : List (Ent κ)} {k : κ} {xs : List α} {m : Dc κ (List α)} (hk : e.1 = DKey.key k) (d : DL K Ho e.2.2 xs) (hn : valM m k = none) (h : EM K Ho es m) : EM K Ho (e :: es) ((k, xs) :: m)
def rowsE (es : List (Ent κ)) : Grp := es.map fun e => (e.2.1, HO.lst e.2.2)
def kvsE (es : List (Ent κ)) : List (DKey.kt κ × V) := es.map fun e => (e.1, V.ref e.2.1)
theorem EM.mo {es : List (Ent κ)} {m : Dc κ (List α)} (h : EM K Ho es m) (e : Same Ho Ho') : EM K Ho' es m := by
  induction h with
  | nil => exact .nil
  | cons hk d hn _ ih => exact .cons hk (DL.mo d e) hn ih
theorem EM.len {es : List (Ent κ)} {m : Dc κ (List α)} (h : EM K Ho es m) : es.length = m.length := by
  induction h with
  | nil => rfl
  | cons _ _ _ _ ih => simp [ih]
theorem valM_put' {k j : κ} {a : α} : ∀ {m : Dc κ α}, valM m j = none → j ≠ k → valM (m.map fun p => if p.1 = k then (p.1, a) else p) j = none
  | [], _, _ => rfl
  | (q, b) :: m, h, hne => by
    by_cases c : q = j
    · simp [valM, c] at h
    · have hm : valM m j = none := by simpa [valM, c] using h
      have ih := valM_put' (a := a) hm hne
      rw [List.map_cons]
      by_cases d : q = k
      · rw [if_pos d]
        simpa [valM, c] using ih
      · rw [if_neg d]
        simpa [valM, c] using ih
theorem map_none {k : κ} {a : α} : ∀ {m : Dc κ α}, valM m k = none → (m.map fun p => if p.1 = k then (p.1, a) else p) = m
  | [], _ => rfl
  | (q, b) :: m, h => by
    by_cases c : q = k
    · simp [valM, c] at h
    · have hm : valM m k = none := by simpa [valM, c] using h
      rw [List.map_cons, if_neg c, map_none hm]
theorem valM_app {k j : κ} {a : α} : ∀ {m : Dc κ α}, valM m j = none → j ≠ k → valM (m ++ [(k, a)]) j = none
  | [], _, hne => by
    have : ¬ k = j := fun e => hne e.symm
    simp [valM, this]
  | (q, b) :: m, h, hne => by
    by_cases c : q = j
    · simp [valM, c] at h
    · have hm : valM m j = none := by simpa [valM, c] using h
      have ih := valM_app (a := a) hm hne
      rw [List.cons_append]
      simpa [valM, c] using ih
/-- a new entry -/
theorem EM.snoc {es : List (Ent κ)} {m : Dc κ (List α)} (h : EM K Ho es m) {k : κ} (hn : valM m k = none) (q : Addr) : EM K Ho (es ++ [(DKey.key k, q, [])]) (m ++ [(k, [])]) := by
  induction h with
  | nil => exact .cons rfl .nil rfl .nil
  | @cons e es k1 xs m hk d h0 h ih =>
    have c : k1 ≠ k := fun c => by simp [valM, c] at hn
    have hm : valM m k = none := by simpa [valM, c] using hn
    exact .cons hk d (valM_app h0 c) (ih hm)
/-- all lists stand for good from now on -/
theorem EM.fr {es : List (Ent κ)} {m : Dc κ (List α)} (h : EM K Ho es m) : ∀ {R : Grp}, Zs (rowsE es ++ R) H Ho → ∃ Ho', Same Ho Ho' ∧ Zs R H Ho' ∧ DL K Ho' ((kvsE es).map (·.2)) (m.map (·.2)) := by
  induction h with
  | nil => exact fun z => ⟨Ho, Same.refl _, z, .nil⟩
  | @cons e es k xs m hk d hn h ih =>
    intro R z
    have z1 : Zs ((e.2.1, HO.lst e.2.2) :: (rowsE es ++ R)) H Ho := z
    have z2 : Zs (rowsE es ++ ((e.2.1, HO.lst e.2.2) :: R)) H Ho := z1.perm List.perm_middle.symm
    obtain ⟨Ho1, s1, z3, d1⟩ := ih z2
    obtain ⟨Ho2, s2, z4, d2⟩ := OL.fr (R := R) (OL.mk (p := e.2.1) (DL.mo d s1)) z3
    exact ⟨Ho2, s1.trans s2, z4, .cons d2 (DL.mo d1 s2)⟩
/-- the entry of a key -/
theorem EM.val {es : List (Ent κ)} {m : Dc κ (List α)} (h : EM K Ho es m) (k : κ) : (valM m k = none ∧ @valV _ DKey.dec (kvsE es) (DKey.key k) = none) ∨
    ∃ (i : Nat) (e : Ent κ) (xs : List α), es[i]? = some e ∧ valM m k = some xs ∧ @valV _ DKey.dec (kvsE es) (DKey.key k) = some (.ref e.2.1) ∧ DL K Ho e.2.2 xs ∧
      ∀ (w : V) (x : α), Z.D K Ho w x → EM K Ho (es.set i (e.1, e.2.1, e.2.2 ++ [w])) (putM m k (xs ++ [x])) := by
  induction h with
  | nil => exact .inl ⟨rfl, rfl⟩
  | @cons e es k1 xs m hk d hn h ih =>
    by_cases c : k1 = k
    · subst c
      refine .inr ⟨0, e, xs, rfl, by simp [valM], ?_, d, fun w x dw => ?_⟩
      · exact @valV_pos _ DKey.dec (e.1, V.ref e.2.1) (kvsE es) (DKey.key k1) hk
      · have hm : putM ((k1, xs) :: m) k1 (xs ++ [x]) = (k1, xs ++ [x]) :: m := by
          unfold putM
          rw [List.any_cons, decide_eq_true rfl, Bool.true_or, if_pos rfl, List.map_cons, if_pos rfl, map_none hn]
        rw [hm]
        exact .cons hk (DL.push d dw) hn h
    · have e1 : ∀ {m : Dc κ (List α)}, valM ((k1, xs) :: m) k = valM m k := by intro m; simp [valM, c]
      have e2 : @valV _ DKey.dec (kvsE (e :: es)) (DKey.key k) = @valV _ DKey.dec (kvsE es) (DKey.key k) := @valV_neg _ DKey.dec (e.1, V.ref e.2.1) (kvsE es) (DKey.key k) (fun z => c (DKey.inj (hk.symm.trans z)))
      rcases ih with ⟨a, b⟩ | ⟨i, e', ys, g1, g2, g3, g4, g5⟩
      · exact .inl ⟨e1.trans a, e2.trans b⟩
      · refine .inr ⟨i + 1, e', ys, g1, e1.trans g2, e2.trans g3, g4, fun w x dw => ?_⟩
        have hm : putM ((k1, xs) :: m) k (ys ++ [x]) = (k1, xs) :: putM m k (ys ++ [x]) := by
          have ha : (m.any fun p => decide (p.1 = k)) = true := by rw [valM_any, g2]; rfl
          unfold putM
          rw [List.any_cons, ha, Bool.or_true, if_pos rfl, if_pos rfl, List.map_cons, if_neg c]
        rw [hm]
        refine .cons hk d ?_ (g5 w x dw)
        have ha : (m.any fun p => decide (p.1 = k)) = true := by rw [valM_any, g2]; rfl
        unfold putM
        rw [if_pos ha]
        exact valM_put' hn c
/-- a dict of its own, its values lists of its own -/
def OT (K : PySem.W.Frag) (Ho : Hp) (v : V) (m : Dc κ (List α)) (g : Grp) : Prop := ∃ p es, v = .ref p ∧ EM K Ho es m ∧ g = (p, DKey.ho (κ := κ) (kvsE es)) :: rowsE es
theorem OT.mo {m : Dc κ (List α)} {g : Grp} (h : OT K Ho v m g) (e : Same Ho Ho') : OT K Ho' v m g := by
  obtain ⟨p, es, rfl, d, rfl⟩ := h
  exact ⟨p, es, rfl, d.mo e, rfl⟩
theorem EM.keys {es : List (Ent κ)} {m : Dc κ (List α)} (h : EM K Ho es m) : (kvsE es).map (·.1) = m.map fun p => DKey.key p.1 := by
  induction h with
  | nil => rfl
  | cons hk _ _ _ ih => unfold kvsE at ih ⊢; rw [List.map_cons, List.map_cons, List.map_cons, ih, hk]
/-- its lists stand for good from now on -/
theorem OT.fr {m : Dc κ (List α)} {g : Grp} (h : OT K Ho v m g) (z : Zs (g ++ R) H Ho) : ∃ Ho' g', Same Ho Ho' ∧ Zs (g' ++ R) H Ho' ∧ OD K Ho' v m g' := by
  obtain ⟨p, es, rfl, d, rfl⟩ := h
  have z1 : Zs ((p, DKey.ho (κ := κ) (kvsE es)) :: (rowsE es ++ R)) H Ho := z
  obtain ⟨Ho', s, z2, dl⟩ := d.fr (z1.perm List.perm_middle.symm)
  exact ⟨Ho', [(p, DKey.ho (κ := κ) (kvsE es))], s, z2, p, kvsE es, rfl, ⟨d.keys, dl⟩, rfl⟩
/-- where the list of a key stands -/
def OTat (K : PySem.W.Frag) (Ho : Hp) (v : V) (m : Dc κ (List α)) (k : κ) (u : V) (g : Grp) : Prop := ∃ p es, v = .ref p ∧ EM K Ho es m ∧ g = (p, DKey.ho (κ := κ) (kvsE es)) :: rowsE es ∧ @valV _ DKey.dec (kvsE es) (DKey.key k) = some u
theorem OTat.mo {m : Dc κ (List α)} {k : κ} {g : Grp} (h : OTat K Ho v m k u g) (e : Same Ho Ho') : OTat K Ho' v m k u g := by
  obtain ⟨p, es, rfl, d, rfl, hv⟩ := h
  exact ⟨p, es, rfl, d.mo e, rfl, hv⟩
theorem EM.at {es : List (Ent κ)} {m : Dc κ (List α)} {p : Addr} {k : κ} (h : EM K Ho es m) (hs : (valM m k).isSome = true) : ∃ e : Ent κ, @valV _ DKey.dec (kvsE es) (DKey.key k) = some (.ref e.2.1) ∧ OTat K Ho (.ref p) m k (.ref e.2.1) ((p, DKey.ho (κ := κ) (kvsE es)) :: rowsE es) := by
  rcases h.val k with ⟨a, _⟩ | ⟨i, e, xs, g1, g2, g3, g4, g5⟩
  · rw [a] at hs; cases hs
  · exact ⟨e, g3, p, es, rfl, h, rfl, g3⟩
theorem row_at {es : List (Ent κ)} {i : Nat} {e : Ent κ} {p : Addr} (g1 : es[i]? = some e) : (((p, DKey.ho (κ := κ) (kvsE es)) :: rowsE es) ++ R)[i + 1]? = some (e.2.1, HO.lst e.2.2) := by
  have hi := (List.getElem?_eq_some_iff.mp g1).1
  show (rowsE es ++ R)[i]? = _
  rw [List.getElem?_append_left (by unfold rowsE; rw [List.length_map]; exact hi)]
  unfold rowsE
  rw [List.getElem?_map, g1]
  rfl
theorem g_tyAt {P : Prop} {m : Dc κ (List α)} {k : κ} {g : Grp} (z : Zs (g ++ R) H Ho) (o : OTat K Ho v m k u g) (kk : P) : tyV K "list" u H ∧ P := by
  obtain ⟨p, es, rfl, h, rfl, hv⟩ := o
  rcases h.val k with ⟨_, c⟩ | ⟨i, e, xs, g1, g2, g3, g4, g5⟩
  · rw [c] at hv; cases hv
  · have : u = .ref e.2.1 := Option.some.inj (hv.symm.trans g3)
    subst this
    exact ⟨.inl ⟨rfl, _, SqL.of (z.rt _ (List.mem_of_getElem? (row_at g1))).1⟩, kk⟩
theorem g_isdT {m : Dc κ (List α)} {g : Grp} {P : Addr → Prop} (z : Zs (g ++ R) H Ho) (o : OT K Ho v m g) (kk : ∀ a, v = .ref a → P a) : ∃ a, v = .ref a ∧ IsD H a ∧ P a := by
  obtain ⟨p, es, rfl, h, rfl⟩ := o
  exact ⟨p, rfl, DKey.isd (z.rt _ List.mem_cons_self).1, kk p rfl⟩
theorem g_appAt {m : Dc κ (List α)} {k : κ} {x : α} {g : Grp} (z : Zs (g ++ R) H Ho) (o : OTat K Ho v m k u g) (dx : Z.D K Ho w x) (hl : ∀ xs, valM m k = some xs → xs.length < sizeLine) (kk : ∀ m' g' H', (∀ xs, valM m k = some xs → m' = putM m k (xs ++ [x])) → Zs (g' ++ R) H' Ho → OT K Ho v m' g' → Q .non H') : rAppend u [w] H Q := by
  obtain ⟨p, es, rfl, h, rfl, hv⟩ := o
  rcases h.val k with ⟨_, c⟩ | ⟨i, e, xs, g1, g2, g3, g4, g5⟩
  · rw [c] at hv; cases hv
  have hu : u = .ref e.2.1 := Option.some.inj (hv.symm.trans g3)
  subst hu
  have hr : (((p, DKey.ho (κ := κ) (kvsE es)) :: rowsE es) ++ R)[i + 1]? = some (e.2.1, HO.lst e.2.2) := by
    have hi := (List.getElem?_eq_some_iff.mp g1).1
    show (rowsE es ++ R)[i]? = _
    rw [List.getElem?_append_left (by unfold rowsE; rw [List.length_map]; exact hi)]
    unfold rowsE
    rw [List.getElem?_map, g1]
    rfl
  refine ⟨e.2.1, e.2.2, w, rfl, rfl, (z.rt _ (List.mem_of_getElem? hr)).1, by rw [DL.len g4]; exact hl xs g2, ?_⟩
  have z2 := z.putI (o' := HO.lst (e.2.2 ++ [w])) hr
  refine kk (putM m k (xs ++ [x])) (((p, DKey.ho (κ := κ) (kvsE (es.set i (e.1, e.2.1, e.2.2 ++ [w]))))) :: rowsE (es.set i (e.1, e.2.1, e.2.2 ++ [w]))) _ (fun ys hy => by rw [g2] at hy; cases hy; rfl) ?_ ⟨p, _, rfl, g5 w x dx, rfl⟩
  have e1 : kvsE (es.set i (e.1, e.2.1, e.2.2 ++ [w])) = kvsE es := by
    unfold kvsE
    rw [List.map_set]
    apply List.ext_getElem?
    intro j
    rw [List.getElem?_set]
    split
    · rename_i c
      subst c
      split
      · rw [List.getElem?_map, g1]; rfl
      · rename_i c
        rw [List.getElem?_eq_none (by omega)]
    · rfl
  have e2 : rowsE (es.set i (e.1, e.2.1, e.2.2 ++ [w])) = (rowsE es).set i (e.2.1, HO.lst (e.2.2 ++ [w])) := by
    unfold rowsE
    rw [List.map_set]
  rw [e1, e2]
  have hi := (List.getElem?_eq_some_iff.mp g1).1
  have e3 : (((p, DKey.ho (κ := κ) (kvsE es)) :: rowsE es) ++ R).set (i + 1) (e.2.1, HO.lst (e.2.2 ++ [w])) = ((p, DKey.ho (κ := κ) (kvsE es)) :: (rowsE es).set i (e.2.1, HO.lst (e.2.2 ++ [w]))) ++ R := by
    show _ :: (rowsE es ++ R).set i _ = _ :: ((rowsE es).set i _ ++ R)
    rw [List.set_append_left _ _ (by unfold rowsE; rw [List.length_map]; exact hi)]
  rw [← e3]
  exact z2
/-- d.setdefault(k, []) -/
def setd (m : Dc κ (List α)) (k : κ) : Dc κ (List α) := if (valM m k).isSome = true then m else m ++ [(k, [])]
theorem valM_new {k : κ} {a : List α} : ∀ {m : Dc κ (List α)}, valM m k = none → valM (m ++ [(k, a)]) k = some a
  | [], _ => by simp [valM]
  | (q, b) :: m, h => by
    by_cases c : q = k
    · simp [valM, c] at h
    · have hm : valM m k = none := by simpa [valM, c] using h
      have ih := valM_new (a := a) hm
      rw [List.cons_append]
      simpa [valM, c] using ih
theorem dkT {k : Int × Int} (d : Z.D K Ho w k) : ∃ b, w = .ref b ∧ Ho b = some (.tup ((DKey.key k : List L2.Key).map kV)) := by
  cases d with
  | tup hs ha =>
    cases ha with
    | cons h1 h2 =>
      cases h2 with
      | cons h3 h4 =>
        cases h4
        rw [d_int h1, d_int h3] at hs
        exact ⟨_, rfl, hs⟩
end
section
variable {K : PySem.W.Frag} {H Ho : Hp} {α : Type} [Py α] {R : Grp} {v w : V} {Q : VK}
def GSetd (Q : VK) (a : Addr) (y z : V) (H : Hp) : Prop := ∃ kvs k b, H a = some (.dT kvs) ∧ y = .ref b ∧ H b = some (.tup (k.map kV)) ∧ kvs.length < sizeLine ∧
  (∀ u, valV kvs k = some u → Q u H) ∧ (valV kvs k = none → Q z (upd H a (.dT (putK kvs k z))))
theorem g_setd {m : Dc (Int × Int) (List α)} {k : Int × Int} {g : Grp} {a q : Addr} (ea : v = .ref a) (z : Zs ([(q, HO.lst [])] ++ (g ++ R)) H Ho) (o : OT K Ho v m g) (dk : Z.D K Ho w k) (hl : m.length < sizeLine)
    (kk : ∀ u g' H', Zs (g' ++ R) H' Ho → OTat K Ho v (setd m k) k u g' → Q u H') : GSetd Q a w (.ref q) H := by
  obtain ⟨p, es, e1, h, rfl⟩ := o
  rw [ea] at e1
  cases e1
  subst ea
  obtain ⟨b, rfl, hb⟩ := dkT dk
  have z0 : Zs ((q, HO.lst []) :: (a, HO.dT (kvsE es)) :: (rowsE es ++ R)) H Ho := z
  refine ⟨kvsE es, DKey.key k, b, (z0.rt _ (List.mem_cons_of_mem _ List.mem_cons_self)).1, rfl, z.le _ _ hb, ?_, fun u hu => ?_, fun hn => ?_⟩
  · unfold kvsE; rw [List.length_map, h.len]; exact hl
  · have hs : (valM m k).isSome = true := by
      rcases h.val k with ⟨_, c⟩ | ⟨i, e, xs, _, c, _⟩
      · have : (none : Option V) = some u := c.symm.trans hu
        cases this
      · rw [c]; rfl
    have es' : setd m k = m := if_pos hs
    obtain ⟨e, he, ha⟩ := EM.at (p := a) h hs
    have hue : u = .ref e.2.1 := Option.some.inj (hu.symm.trans he)
    rw [hue]
    exact kk _ _ _ (Zs.tail z0) (by rw [es']; exact ha)
  · have hs : valM m k = none := by
      rcases h.val k with ⟨c, _⟩ | ⟨i, e, xs, _, _, c, _⟩
      · exact c
      · have : (some (V.ref e.2.1) : Option V) = none := c.symm.trans hn
        cases this
    have es' : setd m k = m ++ [(k, [])] := if_neg (by rw [hs]; exact Bool.false_ne_true)
    have h' := h.snoc hs q
    have hp : putK (κ := List L2.Key) (kvsE es) (DKey.key k : List L2.Key) (.ref q) = kvsE (es ++ [((DKey.key k : List L2.Key), q, [])]) := by
      rw [putK_new _ hn]
      unfold kvsE
      rw [List.map_append]
      rfl
    rw [hp]
    obtain ⟨e, he, ha⟩ := EM.at (p := a) (k := k) h' (by rw [valM_new hs]; rfl)
    have z1 : Zs ((a, HO.dT (kvsE es)) :: ((rowsE es ++ [(q, HO.lst [])]) ++ R)) H Ho := z0.perm (by
      refine (List.Perm.swap _ _ _).trans (List.Perm.cons _ ?_)
      rw [List.append_assoc]
      exact List.perm_middle.symm)
    have z2 := z1.put (o' := HO.dT (kvsE (es ++ [((DKey.key k : List L2.Key), q, [])])))
    have hr : rowsE (es ++ [((DKey.key k : List L2.Key), q, [])]) = rowsE es ++ [(q, HO.lst [])] := by unfold rowsE; rw [List.map_append]; rfl
    have hq : e.2.1 = q := by
      have hv : valV (κ := List L2.Key) (kvsE (es ++ [((DKey.key k : List L2.Key), q, [])])) (DKey.key k : List L2.Key) = some (.ref q) := by
        rw [← hp, valV_put, if_pos rfl]
      have := Option.some.inj (he.symm.trans hv)
      cases this; rfl
    rw [hq] at ha
    refine kk _ _ _ ?_ (by rw [es']; exact ha)
    rw [hr]
    exact z2
variable {td ty tx : TE} {σ : L2.St} {γ : Type} {Φ : γ → Prop}
theorem y_dsetd (k : td σ H fun x H1 => ∃ a, x = .ref a ∧ IsD H1 a ∧ ty σ H1 fun y H2 => tx σ H2 fun z H3 => GSetd Q a y z H3) : tDSetd td ty tx σ H Q := k
theorem g_dnewTo (z : Zs R H Ho) (k : ∀ H' v g, Zs (g ++ R) H' Ho → OT K Ho v ([] : Dc (Int × Int) (List α)) g → Q v H') : tDNewT σ H Q := fun p hp => k _ _ _ (z.root hp) ⟨p, [], rfl, .nil, rfl⟩
theorem t_o {G : V → Prop} {e : Dc (Int × Int) (List α)} {g : Grp} {f : Dc (Int × Int) (List α) → W γ} (hw : (W.bind (W.ret e) f).run Φ) (z : Zs (g ++ R) H Ho) (o : OT K Ho v e g) (k : ∀ x v g, Zs (g ++ R) H Ho → OT K Ho v x g → (f x).run Φ → G v) : LetV G v := k e v g z o hw
/-- d.setdefault(k, []).append(x) -/
def sdApp {κ : Type} [DecidableEq κ] (m : Dc κ (List α)) (k : κ) (x : α) : W (Dc κ (List α)) := W.guard (m.length < sizeLine ∧ ((valM m k).getD []).length < sizeLine) (W.ret (putM (setd m k) k ((valM m k).getD [] ++ [x])))
end
end Z

/-! # what is one's own is lent for a call; `is` of bools; count; isinstance of any value -/
namespace Z
open PySem PySem.Spec PyProof.Rows L2
section
variable {K : PySem.W.Frag} {H Ho H' Ho' : Hp} {κ α γ : Type} [Py κ] [DecidableEq κ] [DKey κ] [Py α] {Φ : γ → Prop} {R : Grp} {v w u : V} {Q : VK} {σ : L2.St}
theorem l_lend {P : Prop} {xs : List α} {g : Grp} (o : OL K Ho v xs g) (z : Zs (g ++ R) H Ho) (k : ∀ Ho', Same Ho Ho' → Zs R H Ho' → Z.D K Ho' v xs → (∀ H2 Ho2, Same Ho' Ho2 → Zs R H2 Ho2 → Zs (g ++ R) H2 Ho) → P) : P := by
  obtain ⟨p, vs, rfl, d, rfl⟩ := o
  have z0 : Zs ((p, HO.lst vs) :: R) H Ho := z
  have hs : Same Ho (upd Ho p (.lst vs)) := Same.new z0.headN
  refine k (upd Ho p (.lst vs)) hs z0.freeze (.lst (SqL.of upd_same) (DL.mo d hs)) (fun H2 Ho2 s z2 => ?_)
  have hp : Ho2 p = some (.lst vs) := s _ _ upd_same
  refine ⟨fun b x e => z2.le _ _ (s _ _ (hs _ _ e)), fun r hr => ?_, z0.nd, z0.nt⟩
  rcases List.mem_cons.mp hr with e | hr
  · subst e
    exact ⟨z2.le _ _ hp, z0.headN⟩
  · exact ⟨(z2.rt r hr).1, (z0.rt r (List.mem_cons_of_mem _ hr)).2⟩
theorem p_again {P : Prop} {rs : Grp} (z : Zs rs H Ho) (k : ∀ Ho', Same Ho Ho' → Zs rs H Ho' → P) : P := k Ho (Same.refl _) z
theorem t_fr {P : Prop} {m : Dc κ (List α)} {g : Grp} (o : OT K Ho v m g) (z : Zs (g ++ R) H Ho) (k : ∀ Ho' g', Same Ho Ho' → Zs (g' ++ R) H Ho' → OD K Ho' v m g' → P) : P := by
  obtain ⟨Ho', g', s, z', o'⟩ := o.fr z
  exact k Ho' g' s z' o'
theorem valM_setd {m : Dc κ (List α)} {k : κ} : valM (setd m k) k = some ((valM m k).getD []) := by
  unfold setd
  cases h : valM m k with
  | none => rw [if_neg (by simp)]; exact valM_new h
  | some xs => rw [if_pos (by simp), h]; rfl
theorem sd_h1 {m : Dc κ (List α)} {k : κ} {x : α} {f : Dc κ (List α) → W γ} (hw : (W.bind (sdApp m k x) f).run Φ) : m.length < sizeLine := hw.1.1
theorem sd_h2 {m : Dc κ (List α)} {k : κ} {x : α} {f : Dc κ (List α) → W γ} (hw : (W.bind (sdApp m k x) f).run Φ) (xs : List α) (h : valM (setd m k) k = some xs) : xs.length < sizeLine := by
  rw [valM_setd] at h
  cases h
  exact hw.1.2
theorem sd_run {m m' : Dc κ (List α)} {k : κ} {x : α} {g : Grp} {f : Dc κ (List α) → W γ} (hw : (W.bind (sdApp m k x) f).run Φ) (hm : ∀ xs, valM (setd m k) k = some xs → m' = putM (setd m k) k (xs ++ [x])) (o : OT K Ho v m' g) : ∃ q, OT K Ho v q g ∧ (f q).run Φ := by
  rw [hm _ valM_setd] at o
  exact ⟨_, o, hw.2⟩
end
section
variable {X : Cx}
theorem bl_beq (a b : Bool) : (Value.bool a == Value.bool b) = decide (a = b) := by
  by_cases e : a = b
  · subst e
    exact (beq_self_eq_true (Value.bool a)).trans (decide_eq_true (p := a = a) rfl).symm
  · exact (beq_eq_false_iff_ne.mpr fun z => e (Value.bool.inj z)).trans (decide_eq_false e).symm
def rIsB : R2 := fun x y H Q => ∃ a b, x = .bl a ∧ y = .bl b ∧ Q (.bl (decide (a = b))) H
def rNotB : R2 := fun x y H Q => ∃ a b, x = .bl a ∧ y = .bl b ∧ Q (.bl (!decide (a = b))) H
theorem op_isB : OpR X (compareOp .Is) rIsB := by
  intro pins s σ H x y v u Q I rx ry h
  obtain ⟨a, b, rfl, rfl, q⟩ := h
  cases (show v = Value.bool a from rx)
  cases (show u = Value.bool b from ry)
  exact wpAny_is_plain rfl (fin_bl I q (bl_beq a b).symm)
theorem op_notB : OpR X (compareOp .IsNot) rNotB := by
  intro pins s σ H x y v u Q I rx ry h
  obtain ⟨a, b, rfl, rfl, q⟩ := h
  cases (show v = Value.bool a from rx)
  cases (show u = Value.bool b from ry)
  exact wpAny_isNot_plain rfl (fin_bl I q (congrArg not (bl_beq a b).symm))
end
section
variable {K : PySem.W.Frag} {H Ho : Hp} {R : Grp} {v w : V} {Q : VK} {α : Type} [Py α]
theorem y_isB {a b : Bool} (k : Q (.bl (decide (a = b))) H) : rIsB (.bl a) (.bl b) H Q := ⟨a, b, rfl, rfl, k⟩
theorem y_notB {a b : Bool} (k : Q (.bl (!decide (a = b))) H) : rNotB (.bl a) (.bl b) H Q := ⟨a, b, rfl, rfl, k⟩
theorem zmt_cnt {X : Cx} (hK : X.K = K) : MtR X "list.count" (rCntI K) := hK ▸ mt_lcount
def cntZ (xs : List Int) (k : Int) : Int := ((xs.count k : Nat) : Int)
theorem y_cnt {xs : List Int} {k : Int} (d : LV K R Ho v xs) (z : Zs R H Ho) (kk : Q (.int (cntZ xs k)) H) : rCntI K v [.int k] H Q := by
  obtain ⟨p, vs, rfl, d, s⟩ := d.rd z
  rw [dl_ints d] at s
  exact ⟨p, xs, k, rfl, rfl, s, kk⟩
def pyK : PyData → String
  | .none => "NoneType" | .bool _ => "bool" | .int _ => "int" | .str _ => "str" | .list _ => "list" | .tuple _ => "tuple" | .dict _ => "dict"
def isP (x : PyData) (T : String) : Bool := (kitB (pyK x) T).getD false
/-- no instance -/
def okP (y : PyData) : Prop := ∀ l, y ≠ .dict l
theorem y_isiP {x : α} {T : String} (d : Z.D K H v x) (hg : okP (toPy x)) (h : (["NoneType", "bool", "int", "str", "list", "tuple", "dict"].all fun k => (kitB k T).isSome) = true) (k : Q (.bl (isP (toPy x) T)) H) : rIsi K [v, .ty T] H Q := by
  have hs : (kitB (pyK (toPy x)) T).isSome = true := by
    refine (List.all_eq_true.mp h) _ ?_
    cases toPy x <;> simp [pyK]
  obtain ⟨b, hb⟩ := Option.isSome_iff_exists.mp hs
  have e : isP (toPy x) T = b := by unfold isP; rw [hb]; rfl
  rw [e] at k
  refine ⟨v, .ty T, _, .type T, b, rfl, .ty T, ?_, kit_ty hb, k⟩
  have d : Dq K H v (toPy x) := d
  generalize toPy x = y at d hg
  cases d with
  | ins _ _ _ => exact absurd rfl (hg _)
  | non => exact .base .non
  | bl b => exact .base (.bl _)
  | int i => exact .base (.int _)
  | str s => exact .base (.str _)
  | lst hs _ => exact tyx_list hs
  | tup hs _ => exact tyx_tup (SqT.of hs)
end
/-! methods inside a comprehension: the written part is named outside -/
section
variable {X : Cx} {K : PySem.W.Frag} {o e : Expr} {es : List Expr} {to : TE} {t : TA} {name : Str} {apos cpos : Pos} {T id : String} {r : V → List V → Hp → VK → Prop}
theorem zpe_bm (hK : X.K = K) (pa : PlainAttrs T) (slot : Slot T name id) (hty : typeOf (.builtin id) = pure (.type "method_descriptor")) (hm : MtR X id r) (ho : PE X o to) (ha : PA X (e :: es) t)
    (hbase : attributeBase o name X.env (eval o X.env) = eval o X.env := by rfl)
    (hfew : ((backTo cpos (starEach (e :: es) X.env)).all (fun x => !x.1) && (backToKw cpos (keywordEach [] X.env)).all (fun x => x.1.isSome)
      && decide ((e :: es).length + ([] : List Keyword).length + (if ([] : List Keyword).isEmpty then 0 else 1) < 30)) = true := by rfl)
    (hline : (apos.endLine == cpos.line) = true := by rfl) (hs : starEach (e :: es) X.env = (false, eval e X.env) :: starEach es X.env := by rfl) (hplain : (backTo cpos (starEach es X.env)).any (·.1) = false := by rfl) :
    PE X (.Call (.Attribute o name apos) (e :: es) [] cpos) (tBM K T r to t) := hK ▸ pe_bm pa slot hty hm ho ha hbase hfew hline hs hplain
theorem zpe_bm0 (hK : X.K = K) (pa : PlainAttrs T) (slot : Slot T name id) (hty : typeOf (.builtin id) = pure (.type "method_descriptor")) (hm : MtR X id r) (ho : PE X o to)
    (hbase : attributeBase o name X.env (eval o X.env) = eval o X.env := by rfl) (hline : (apos.endLine == cpos.line) = true := by rfl) : PE X (.Call (.Attribute o name apos) [] [] cpos) (tBM0 K T r to) := hK ▸ pe_bm0 pa slot hty hm ho hbase hline
end
end Z

/-! # texts -/
namespace Z
open PySem PySem.Spec PyProof.Rows L2
section
variable {K : PySem.W.Frag} {H Ho : Hp} {R : Grp} {v w : V} {Q : VK} {σ : L2.St} {te to : TE} {X : Cx}
def strI (i : Int) : Str := toString i
def CStr (i : Int) : Prop := i.natAbs.log2 < 1920
def rCatStr : R2 := fun x y H Q => ∃ i j, x = .str i ∧ y = .str j ∧ i.length + j.length ≤ sizeLine ∧ Q (.str (i ++ j)) H
theorem zop_catStr : OpR X (binaryOp .Add) rCatStr := op_add_str
theorem y_catStr {a b : Str} (hg : a.length + b.length ≤ sizeLine) (k : Q (.str (a ++ b)) H) : rCatStr (.str a) (.str b) H Q := ⟨a, b, rfl, rfl, hg, k⟩
def rStrI : List V → Hp → VK → Prop := fun xs H Q => ∃ i, xs = [.int i] ∧ i.natAbs.log2 < 1920 ∧ Q (.str (toString i)) H
theorem zstrI : CallR X (.type "str") rStrI := call_str_int
theorem y_strI {i : Int} (hg : CStr i) (k : Q (.str (strI i)) H) : rStrI [.int i] H Q := ⟨i, rfl, hg, k⟩
theorem dl_strs {vs : List V} : ∀ {xs : List Str}, DL K H vs xs → vs = xs.map V.str := by
  induction vs with
  | nil => intro xs h; cases xs with | nil => rfl | cons x xs => cases h
  | cons v vs ih =>
    intro xs h
    cases xs with
    | nil => cases h
    | cons x xs => cases h with | cons h1 h2 => rw [ih h2, d_str h1]; rfl
def rJoin (K : PySem.W.Frag) : V → List V → Hp → VK → Prop := fun x xs H Q => ∃ a p, ∃ ys : List Str, x = .str a ∧ xs = [.ref p] ∧ (SqL K H p (ys.map V.str) ∨ SqT K H p (ys.map V.str)) ∧ (ys.map (·.length)).sum + ys.length * a.length ≤ 16777216 ∧ Q (.str (Txt.join a ys)) H
theorem zmt_join (hK : X.K = K) : MtR X "str.join" (rJoin K) := hK ▸ mt_join
def JoinG (a : Str) (ys : List Str) : Prop := (ys.map (·.length)).sum + ys.length * a.length ≤ 16777216
theorem y_sjoin {a : Str} {ys : List Str} (d : LV K R Ho w ys) (z : Zs R H Ho) (hg : JoinG a ys) (k : Q (.str (Txt.join a ys)) H) : rJoin K (.str a) [w] H Q := by
  obtain ⟨p, vs, rfl, d, s⟩ := d.rd z
  rw [dl_strs d] at s
  exact ⟨a, p, ys, rfl, rfl, .inl s, hg, k⟩
def StrR (r : V → List V → Hp → VK → Prop) (te : TE) (σ : L2.St) (Q : VK) (x : V) (H1 : Hp) : Prop := (∃ a, x = .str a) ∧ te σ H1 fun y H2 => r x [y] H2 Q
theorem y_tm1 {r : V → List V → Hp → VK → Prop} (k : to σ H fun x H1 => StrR r te σ Q x H1) : tM1 r to te σ H Q := k
theorem y_tm1s {r : V → List V → Hp → VK → Prop} {a : Str} (k : te σ H fun y H2 => r (.str a) [y] H2 Q) : StrR r te σ Q (.str a) H := ⟨⟨a, rfl⟩, k⟩
/-! f-strings -/
def tFs (ts : List TE) : TE := fun σ H Q => tJs ts Str.empty σ H fun out H1 => Q (.str out) H1
theorem zpe_fs {v1 v2 : Expr} {rest : List Expr} {ts : List TE} {pos : Pos} (h : PJ X (v1 :: v2 :: rest) ts) : PE X (.JoinedStr (v1 :: v2 :: rest) pos) (tFs ts) := pe_joined h
def JsC (ts : List TE) (acc : Str) (σ : L2.St) (QJ : Str → Hp → Prop) (x : V) (H1 : Hp) : Prop := ∃ y : Str, x = .str y ∧ (acc ++ y).length ≤ sizeLine ∧ tJs ts (acc ++ y) σ H1 QJ
theorem y_fs {ts : List TE} (k : tJs ts Str.empty σ H fun out H1 => Q (.str out) H1) : tFs ts σ H Q := k
theorem y_jsC {t : TE} {ts : List TE} {acc : Str} {QJ : Str → Hp → Prop} (k : t σ H fun x H1 => JsC ts acc σ QJ x H1) : tJs (t :: ts) acc σ H QJ := k
theorem y_jsS {ts : List TE} {acc y : Str} {QJ : Str → Hp → Prop} (hg : (acc ++ y).length ≤ sizeLine) (k : tJs ts (acc ++ y) σ H QJ) : JsC ts acc σ QJ (.str y) H := ⟨y, rfl, hg, k⟩
theorem y_jsN {acc : Str} (k : Q (.str acc) H) : tJs [] acc σ H fun out H1 => Q (.str out) H1 := k
def FmtK (Q : VK) (x : V) (H1 : Hp) : Prop := (∃ y : Str, x = .str y ∧ y.length ≤ sizeLine ∧ Q (.str y) H1) ∨ ∃ i : Int, x = .int i ∧ i.natAbs.log2 < 1920 ∧ Q (.str (toString i)) H1
theorem y_fmt (k : te σ H fun x H1 => FmtK Q x H1) : tFmt te σ H Q := k
theorem y_fmtI {i : Int} (hg : CStr i) (k : Q (.str (strI i)) H) : FmtK Q (.int i) H := .inr ⟨i, rfl, hg, k⟩
theorem y_fmtS {y : Str} (hg : y.length ≤ sizeLine) (k : Q (.str y) H) : FmtK Q (.str y) H := .inl ⟨y, rfl, hg, k⟩
end
end Z

/-! # a tuple of two lists of one's own -/
namespace Z
open PySem L2
section
variable {K : PySem.W.Frag} {H Ho H' Ho' : Hp} {α β γ : Type} [Py α] [Py β] {Φ : γ → Prop} {R g0 g1 g : Grp} {v w u v0 v1 : V} {Q : VK} {σ : L2.St} {xs : List α} {ys : List β} {x : List α × List β}
def TupAt (Ho : Hp) (v v0 v1 : V) : Prop := ∃ p, v = .ref p ∧ Ho p = some (.tup [v0, v1])
theorem TupAt.mo (h : TupAt Ho v v0 v1) (e : Same Ho Ho') : TupAt Ho' v v0 v1 := by
  obtain ⟨p, rfl, hp⟩ := h
  exact ⟨p, rfl, e _ _ hp⟩
def OP (K : PySem.W.Frag) (Ho : Hp) (v : V) (x : List α × List β) (g : Grp) : Prop := ∃ v0 v1 g0 g1, TupAt Ho v v0 v1 ∧ OL K Ho v0 x.1 g0 ∧ OL K Ho v1 x.2 g1 ∧ g = g0 ++ g1
theorem OP.mo (h : OP K Ho v x g) (e : Same Ho Ho') : OP K Ho' v x g := by
  obtain ⟨v0, v1, g0, g1, t, o0, o1, rfl⟩ := h
  exact ⟨v0, v1, g0, g1, t.mo e, o0.mo e, o1.mo e, rfl⟩
theorem p_open {P : Prop} (o : OP K Ho v x g) (z : Zs (g ++ R) H Ho) (k : ∀ v0 v1 g0 g1, TupAt Ho v v0 v1 → OL K Ho v0 x.1 g0 → OL K Ho v1 x.2 g1 → Zs (g0 ++ (g1 ++ R)) H Ho → P) : P := by
  obtain ⟨v0, v1, g0, g1, t, o0, o1, rfl⟩ := o
  rw [List.append_assoc] at z
  exact k v0 v1 g0 g1 t o0 o1 z
theorem p_close {P : Prop} (t : TupAt Ho v v0 v1) (o0 : OL K Ho v0 xs g0) (o1 : OL K Ho v1 ys g1) (z : Zs (g0 ++ (g1 ++ R)) H Ho) (k : ∀ g, OP K Ho v (xs, ys) g → Zs (g ++ R) H Ho → P) : P :=
  k (g0 ++ g1) ⟨v0, v1, g0, g1, t, o0, o1, rfl⟩ (by rw [List.append_assoc]; exact z)
theorem p_reopen {P : Prop} (t : TupAt Ho v v0 v1) (o : OP K Ho v x g) (z : Zs (g ++ R) H Ho) (k : ∀ g0 g1, OL K Ho v0 x.1 g0 → OL K Ho v1 x.2 g1 → Zs (g0 ++ (g1 ++ R)) H Ho → P) : P := by
  obtain ⟨w0, w1, g0, g1, t2, o0, o1, rfl⟩ := o
  rw [List.append_assoc] at z
  obtain ⟨p, rfl, hp⟩ := t
  obtain ⟨q, hq, hq2⟩ := t2
  cases hq
  rw [hp] at hq2
  cases hq2
  exact k g0 g1 o0 o1 z
theorem p_fr {P : Prop} (o : OP K Ho v x g) (z : Zs (g ++ R) H Ho) (k : ∀ Ho', Same Ho Ho' → Zs R H Ho' → Z.D K Ho' v x → P) : P := by
  obtain ⟨w0, w1, g0, g1, t, o0, o1, rfl⟩ := o
  rw [List.append_assoc] at z
  obtain ⟨Ho1, e1, z1, d0⟩ := OL.fr o0 z
  obtain ⟨Ho2, e2, z2, d1⟩ := OL.fr (o1.mo e1) z1
  refine k Ho2 (e1.trans e2) z2 ?_
  obtain ⟨p, rfl, hp⟩ := t
  exact .tup (e2 _ _ (e1 _ _ hp)) (.cons (D.mo d0 e2) (.cons d1 .nil))
theorem p_tupk (z : Zs R H Ho) (k : ∀ p H' Ho', Same Ho Ho' → Zs R H' Ho' → TupAt Ho' (.ref p) v0 v1 → Q (.ref p) H') : TupK Q [v0, v1] H :=
  ⟨by show 2 ≤ sizeLine; decide, fun p hp => k p _ _ (Same.new (z.free hp)) (z.alloc hp) ⟨p, rfl, upd_same⟩⟩
theorem TupAt.d (t : TupAt Ho v v0 v1) (d0 : Z.D K Ho v0 xs) (d1 : Z.D K Ho v1 ys) : Z.D K Ho v (xs, ys) := by
  obtain ⟨p, rfl, hp⟩ := t
  exact .tup hp (.cons d0 (.cons d1 .nil))
theorem TupAt.rd (t : TupAt Ho v v0 v1) (l0 : LV K R Ho v0 xs) (l1 : LV K R Ho v1 ys) (z : Zs R H Ho) : Z.D K H v (xs, ys) := by
  obtain ⟨p, rfl, hp⟩ := t
  exact .tup (z.le _ _ hp) (.cons (l0.dp z) (.cons (l1.dp z) .nil))
theorem p_ix0 (t : TupAt Ho v v0 v1) (z : Zs R H Ho) (k : Q v0 H) : rIxT K v (.int 0) H Q := by
  obtain ⟨p, rfl, hp⟩ := t
  exact ⟨p, [v0, v1], 0, v0, rfl, rfl, SqT.of (z.le _ _ hp), rfl, k⟩
theorem p_ix1 (t : TupAt Ho v v0 v1) (z : Zs R H Ho) (k : Q v1 H) : rIxT K v (.int 1) H Q := by
  obtain ⟨p, rfl, hp⟩ := t
  exact ⟨p, [v0, v1], 1, v1, rfl, rfl, SqT.of (z.le _ _ hp), rfl, k⟩
theorem p_len (t : TupAt Ho v v0 v1) (z : Zs R H Ho) (k : Q (.int 2) H) : rLenZ K [v] H Q := by
  obtain ⟨p, rfl, hp⟩ := t
  exact ⟨p, [v0, v1], rfl, .inr (SqT.of (z.le _ _ hp)), k⟩
theorem p_gt2 {i j : Nat} {QS : L2.St → Hp → Prop} (σ' : V → V → L2.St) (hσ : ∀ v u, (σ.set i (some v)).set j (some u) = σ' v u) (t : TupAt Ho v v0 v1) (z : Zs R H Ho) (k : QS (σ' v0 v1) H) : gTup K 2 (gCons (gName i) (gCons (gName j) gNil)) v σ H QS := by
  obtain ⟨p, rfl, hp⟩ := t
  exact ⟨_, _, rfl, SqT.of (z.le _ _ hp), rfl, _, _, rfl, _, _, rfl, rfl, by rw [hσ]; exact k⟩
theorem p_o {G : V → Prop} {e : List α × List β} {f : List α × List β → W γ} (hw : (W.bind (W.ret e) f).run Φ) (z : Zs (g ++ R) H Ho) (o : OP K Ho v e g) (k : ∀ x v g, Zs (g ++ R) H Ho → OP K Ho v x g → (f x).run Φ → G v) : LetV G v := k e v g z o hw
theorem g_rep {n : Int} (z : Zs (g ++ R) H Ho) (o : OL K Ho v xs g) (hg : repG xs n) (k : ∀ H' p ws, Zs ([(p, .lst ws)] ++ (g ++ R)) H' Ho → DL K Ho ws (repL xs n) → Q (.ref p) H') : rRep v (.int n) H Q := by
  obtain ⟨p, vs, rfl, d, rfl⟩ := o
  exact ⟨p, n, vs, rfl, rfl, z.head, hg.1, hg.2.1, by rw [DL.len d]; exact hg.2.2, fun q hq => k _ q _ (z.root hq) (rep_dl d _)⟩
theorem zpe_revL {X : Cx} {e : Expr} {te : TE} {k : Nat} {p1 p2 p3 pos : Pos} (hK : X.K = K) (he : PE X e te) : PE X (.Subscript e (.Slice none none (some (.UnaryOp .USub (.Constant (.int 1) k p1) p2)) p3) pos) (tRevL K te) := hK ▸ pe_revL he
def RevK (K : PySem.W.Frag) (Q : VK) (x : V) (H1 : Hp) : Prop := ∃ a xs, x = .ref a ∧ SqL K H1 a xs ∧ ∀ p, H1 p = none → Q (.ref p) (upd H1 p (.lst xs.reverse))
theorem y_revL {te : TE} (k : te σ H fun x H1 => RevK K Q x H1) : tRevL K te σ H Q := k
theorem y_rev1 (d : LV K R Ho v xs) (z : Zs R H Ho) (k : ∀ H' p ws, Zs ((p, .lst ws) :: R) H' Ho → DL K Ho ws xs.reverse → Q (.ref p) H') : RevK K Q v H := by
  obtain ⟨p, vs, rfl, d, s⟩ := d.rd z
  refine ⟨p, vs, rfl, s, fun q hq => k _ q _ (z.root hq) ?_⟩
  show DqAll _ _ _ (xs.reverse.map Py.toPy)
  rw [List.map_reverse]
  exact dpAll_rev d
end
/-! dicts whose keys are four ints -/
instance : DKey (P4 Int Int Int Int) where
  kt := List L2.Key
  dec := inferInstance
  key p := [.inl p.a, .inl p.b, .inl p.c, .inl p.d]
  inj h := by
    rename_i x y
    obtain ⟨a1, a2, a3, a4⟩ := x
    obtain ⟨b1, b2, b3, b4⟩ := y
    simp only [List.cons.injEq, Sum.inl.injEq, and_true] at h
    rw [h.1, h.2.1, h.2.2.1, h.2.2.2]
  ho := .dT
  get e s d := by
    cases d with
    | tup hs ha =>
      cases ha with
      | cons h1 ha => cases ha with
        | cons h2 ha => cases ha with
          | cons h3 ha => cases ha with
            | cons h4 ha =>
              cases ha
              rw [d_int h1, d_int h2, d_int h3, d_int h4] at hs
              exact DGet.t e (s _ _ hs)
  put e s d h := by
    cases d with
    | tup hs ha =>
      cases ha with
      | cons h1 ha => cases ha with
        | cons h2 ha => cases ha with
          | cons h3 ha => cases ha with
            | cons h4 ha =>
              cases ha
              rw [d_int h1, d_int h2, d_int h3, d_int h4] at hs
              exact DPut.t e (s _ _ hs) h
  isd e := .inr ⟨_, .inl e⟩
section
variable {K : PySem.W.Frag} {H Ho : Hp} {α : Type} [Py α] {R : Grp} {Q : VK} {σ : L2.St}
theorem g_dnewT4 (z : Zs R H Ho) (k : ∀ H' v g, Zs (g ++ R) H' Ho → OD K Ho v ([] : Dc (P4 Int Int Int Int) α) g → Q v H') : tDNewT σ H Q := fun p hp => k _ _ _ (z.root hp) ⟨p, [], rfl, ⟨rfl, .nil⟩, rfl⟩
end
end Z

/-! # texts, sign by sign; split, int -/
namespace Z
open PySem PySem.Spec PyProof.Rows L2
section
variable {K : PySem.W.Frag} {H Ho : Hp} {R : Grp} {v w : V} {Q : VK} {σ : L2.St} {te to : TE} {X : Cx} {γ : Type} {Φ : γ → Prop}
def chS (z : Str) : List Str := z.cps.toList.map fun c => (⟨#[c]⟩ : Str)
theorem trn_str {z : Str} : Trn K [] (Its z) (chS z) Ho := by
  intro i rs' H' Ho' e zz sub
  refine ⟨fun x hx => ?_, fun hl => ?_⟩
  · unfold chS at hx
    rw [List.getElem?_map, Option.map_eq_some_iff] at hx
    obtain ⟨c, hc, rfl⟩ := hx
    have hi : i < z.cps.size := by
      have := (List.getElem?_eq_some_iff.mp hc).1
      rwa [Array.length_toList] at this
    refine ⟨hi, fun y H'' yy => ?_⟩
    obtain ⟨rfl, d, hd, rfl⟩ := yy
    have : d = c := by
      rw [Array.getElem?_toList] at hc
      exact Option.some.inj (hd.symm.trans hc)
    subst this
    exact ⟨Ho', Same.refl _, fun _ z => z, .str _⟩
  · unfold chS at hl
    rw [List.length_map, Array.length_toList] at hl
    exact hl
def SrcS (R : It → Hp → Prop) (x : V) (H : Hp) : Prop := ∃ z, x = .str z ∧ R (Its z) H
theorem k_iStr {R : It → Hp → Prop} (k : te σ H fun x H1 => SrcS R x H1) : iStr te σ H R := k
theorem k_srcS {R : It → Hp → Prop} {z : Str} (k : ∀ J, Trn K [] J (chS z) Ho → R J H) : SrcS R (.str z) H := ⟨z, rfl, k _ trn_str⟩
def hasS (j i : Str) : Bool := !(Builtin.Str.occurrences j i 0 j.length 1).isEmpty
def rInStr : R2 := fun x y H Q => ∃ i j, x = .str i ∧ y = .str j ∧ Q (.bl (!(Builtin.Str.occurrences j i 0 j.length 1).isEmpty)) H
def rNotinStr : R2 := fun x y H Q => ∃ i j, x = .str i ∧ y = .str j ∧ Q (.bl (!(!(Builtin.Str.occurrences j i 0 j.length 1).isEmpty))) H
theorem zop_inStr : OpR X (compareOp .In) rInStr := op_in_str
theorem zop_notinStr : OpR X (compareOp .NotIn) rNotinStr := op_notin_str
theorem y_inStr {i j : Str} (k : Q (.bl (hasS j i)) H) : rInStr (.str i) (.str j) H Q := ⟨i, j, rfl, rfl, k⟩
theorem y_notinStr {i j : Str} (k : Q (.bl (!hasS j i)) H) : rNotinStr (.str i) (.str j) H Q := ⟨i, j, rfl, rfl, k⟩
/-- the sign at a place -/
def chr (z : Str) (i : Int) : W Str := W.guard (z.length ≤ sizeLine) (W.bind (W.opt (atI z.cps.toList i)) fun c => W.ret (⟨#[c]⟩ : Str))
theorem y_ixStr {z : Str} {i : Int} {f : Str → W γ} (hw : (W.bind (chr z i) f).run Φ) (k : ∀ t, (f t).run Φ → Q (.str t) H) : rIxS (.str z) (.int i) H Q := by
  obtain ⟨hl, c, hc, hw⟩ := hw
  exact ⟨z, i, c, rfl, rfl, hl, hc, k _ hw⟩
def rLenS : List V → Hp → VK → Prop := fun xs H Q => ∃ y : Str, xs = [.str y] ∧ y.length ≤ sizeLine ∧ Q (.int (y.length : Nat)) H
theorem zlenS : CallR X (.builtin "len") rLenS := by
  intro pins s σ H xs us Q I r h
  obtain ⟨y, e, hl, q⟩ := h
  exact call_len pins s σ H xs us Q I r ⟨.str y, y.length, e, ⟨hl, rfl⟩, q⟩
theorem y_lenStr {y : Str} (hg : y.length ≤ sizeLine) (k : Q (.int (y.length : Int)) H) : rLenS [.str y] H Q := ⟨y, rfl, hg, k⟩
def rSplit : V → List V → Hp → VK → Prop := fun x xs H Q => ∃ a b, x = .str a ∧ xs = [.str b] ∧ (b.length == 0) = false ∧ a.length + 2 ≤ sizeLine ∧ rNewStrs (Txt.split a b) H Q
theorem zmt_split : MtR X "str.split" rSplit := mt_split
def SplG (a b : Str) : Prop := (b.length == 0) = false ∧ a.length + 2 ≤ sizeLine
theorem strs_dl : ∀ {xs : List Str}, DL K H (xs.map V.str) xs
  | [] => .nil
  | x :: xs => .cons (.str x) strs_dl
theorem y_split {a b : Str} (z : Zs R H Ho) (hg : SplG a b) (k : ∀ H' p ws, Zs ((p, .lst ws) :: R) H' Ho → DL K Ho ws (Txt.split a b) → Q (.ref p) H') : rSplit (.str a) [.str b] H Q :=
  ⟨a, b, rfl, rfl, hg.1, hg.2, fun p hp => k _ p _ (z.root hp) strs_dl⟩
def rIntS : List V → Hp → VK → Prop := fun xs H Q => ∃ a n, xs = [.str a] ∧ PySem.intText? a = some n ∧ a.length ≤ 640 ∧ Q (.int n) H
theorem zintS : CallR X (.type "int") rIntS := call_int_str
/-- int(text) -/
def intS (a : Str) : W Int := W.guard (a.length ≤ 640) (W.opt (PySem.intText? a))
theorem y_intS {a : Str} {f : Int → W γ} (hw : (W.bind (intS a) f).run Φ) (k : ∀ t, (f t).run Φ → Q (.int t) H) : rIntS [.str a] H Q := by
  obtain ⟨hl, n, hn, hw⟩ := hw
  exact ⟨a, n, rfl, hn, hl, k _ hw⟩
end
end Z

/-! # a list of two is taken apart -/
namespace Z
open PySem PySem.Spec PyProof.Rows L2
section
variable {α γ : Type} [Py α] {K : PySem.W.Frag} {rs : List (Addr × HO)} {H Ho : Hp} {σ : L2.St} {Φ : γ → Prop}
def two {α : Type} : List α → Option (α × α)
  | [a, b] => some (a, b)
  | _ => none
theorem two_some {xs : List α} {p : α × α} (h : two xs = some p) : xs = [p.1, p.2] := by
  match xs, h with
  | [a, b], h => cases h; rfl
theorem zpg_unl {X : Cx} {es : List Expr} {k : Nat} {t : TGs} {n : Nat} {pos : Pos} (hK : X.K = K) (hc : X.calm = true) (h : PGs X es t)
    (hn : (assignEach es X.env).length = n := by rfl) (hst : (assignEach es X.env).findIdx? (·.1) = none := by rfl) : PG X (.Tuple es k pos) (gUnl K n t) := hK ▸ pg_unl hc h hn hst
theorem c_unl2 {i j : Nat} {x : V} {QS : L2.St → Hp → Prop} {xs : List α} {f : α × α → W γ} (hw : (W.bind (W.opt (two xs)) f).run Φ) (σ' : V → V → L2.St) (hσ : ∀ v u, (σ.set i (some v)).set j (some u) = σ' v u) (d : LV K rs Ho x xs) (z : Zs rs H Ho)
    (k : ∀ a b v u, D K Ho v a → D K Ho u b → (f (a, b)).run Φ → QS (σ' v u) H) : gUnl K 2 (gCons (gName i) (gCons (gName j) gNil)) x σ H QS := by
  obtain ⟨p, e, hf⟩ := hw
  have ex := two_some e
  subst ex
  obtain ⟨q, vs, rfl, d, s⟩ := LV.rd d z
  cases d with
  | cons h1 h2 =>
    cases h2 with
    | cons h2 h3 =>
      cases h3
      exact ⟨_, _, rfl, s, rfl, _, _, rfl, _, _, rfl, rfl, by rw [hσ]; exact k _ _ _ _ h1 h2 hf⟩
end
end Z

/-! # data of any kind: items, lengths, kinds -/
namespace Z
open PySem PySem.Spec PyProof.Rows L2
theorem IxR.or {X : Cx} {r r' : R2} (h : IxR X r) (h' : IxR X r') : IxR X (fun x y H Q => r x y H Q ∨ r' x y H Q) := by
  intro value slice pins s σ H x y v u Q I rx ry q hs
  rcases q with q | q
  · exact h _ _ _ _ _ _ _ _ _ _ _ I rx ry q hs
  · exact h' _ _ _ _ _ _ _ _ _ _ _ I rx ry q hs
section
variable {α β γ : Type} [Py α] {K : PySem.W.Frag} {rs : List (Addr × HO)} {H Ho : Hp} {σ : L2.St} {Φ : γ → Prop} {Q : VK} {v : V}
def rIxA (K : PySem.W.Frag) : R2 := fun x y H Q => rIxL K x y H Q ∨ rIxT K x y H Q
theorem zix_any {X : Cx} (hK : X.K = K) : IxR X (rIxA K) := (zix_list hK).or (zix_tup hK)
/-- the item of a list or a tuple -/
def pyIx : PyData → Int → Option PyData
  | .list xs, i => atI xs i
  | .tuple xs, i => atI xs i
  | _, _ => none
def pyLen : PyData → Option Int
  | .list xs => some (xs.length : Int)
  | .tuple xs => some (xs.length : Int)
  | _ => none
theorem atI_dqG {H : Hp} {vs : List V} {ds : List PyData} {i : Int} {d : PyData} (h : DqAll K H vs ds) (e : atI ds i = some d) : ∃ v, atI vs i = some v ∧ Dq K H v d := by
  unfold atI at e ⊢
  have hl := dpAll_len h
  rw [hl]
  cases q : ixN ds.length i with
  | none => rw [q] at e; cases e
  | some j =>
    rw [q] at e
    exact dpAll_get h e
theorem y_ixP {x : PyData} {i : Int} {f : PyData → W γ} (d : D K Ho v x) (z : Zs rs H Ho) (hw : (W.bind (W.opt (pyIx x i)) f).run Φ) (k : ∀ t w, D K Ho w t → (f t).run Φ → Q w H) : rIxA K v (.int i) H Q := by
  obtain ⟨a, ea, hw⟩ := hw
  have d : Dq K Ho v x := d
  cases d with
  | lst hs ha =>
    obtain ⟨w, ew, dw⟩ := atI_dqG ha ea
    exact .inl ⟨_, _, i, w, rfl, rfl, z.le.seq hs, ew, k a w dw hw⟩
  | tup hs ha =>
    obtain ⟨w, ew, dw⟩ := atI_dqG ha ea
    exact .inr ⟨_, _, i, w, rfl, rfl, SqT.of (z.le _ _ hs), ew, k a w dw hw⟩
  | non => cases ea
  | bl _ => cases ea
  | int _ => cases ea
  | str _ => cases ea
  | ins _ _ _ => cases ea
theorem y_lenP {x : PyData} {f : Int → W γ} (d : D K Ho v x) (z : Zs rs H Ho) (hw : (W.bind (W.opt (pyLen x)) f).run Φ) (k : ∀ t, (f t).run Φ → Q (.int t) H) : rLenZ K [v] H Q := by
  obtain ⟨a, ea, hw⟩ := hw
  have d : Dq K Ho v x := d
  cases d with
  | lst hs ha =>
    cases ea
    refine ⟨_, _, rfl, .inl (z.le.seq hs), ?_⟩
    rw [dpAll_len ha]
    exact k _ hw
  | tup hs ha =>
    cases ea
    refine ⟨_, _, rfl, .inr (SqT.of (z.le _ _ hs)), ?_⟩
    rw [dpAll_len ha]
    exact k _ hw
  | non => cases ea
  | bl _ => cases ea
  | int _ => cases ea
  | str _ => cases ea
  | ins _ _ _ => cases ea
/-! isinstance(x, (T1, T2)) -/
theorem zisiT {X : Cx} (hK : X.K = K) : CallR X (.builtin "isinstance") (rIsiT K) := hK ▸ call_isiT
def allK : List String := ["NoneType", "bool", "int", "str", "list", "tuple", "dict"]
def IsiK (T : String) : Prop := (allK.all fun k => (kitB k T).isSome) = true
theorem tyx_py {x : PyData} (d : Dq K H v x) (hg : okP x) : TyX K H v (.type (pyK x)) := by
  cases d with
  | ins _ _ _ => exact absurd rfl (hg _)
  | non => exact .base .non
  | bl b => exact .base (.bl _)
  | int i => exact .base (.int _)
  | str s => exact .base (.str _)
  | lst hs _ => exact tyx_list hs
  | tup hs _ => exact tyx_tup (SqT.of hs)
theorem isP_kit {x : PyData} {T : String} (h : IsiK T) : PySem.W.kitOne K (.type (pyK x)) (.type T) = some (isP x T) := by
  have hs : (kitB (pyK x) T).isSome = true := by
    refine (List.all_eq_true.mp h) _ ?_
    cases x <;> simp [pyK, allK]
  obtain ⟨b, hb⟩ := Option.isSome_iff_exists.mp hs
  have e : isP x T = b := by unfold isP; rw [hb]; rfl
  rw [e]
  exact kit_ty hb
theorem y_isPT2 {x : α} {p : Addr} {S T : String} (d : D K H v x) (hg : okP (toPy x)) (hp : H p = some (.tup [.ty S, .ty T])) (h1 : IsiK S) (h2 : IsiK T) (k : Q (.bl (isP (toPy x) S || (isP (toPy x) T || false))) H) : rIsiT K [v, .ref p] H Q :=
  ⟨v, p, _, .type (pyK (toPy x)), [.type S, .type T], _, rfl, hp, .cons (.ty S) (.cons (.ty T) .nil), tyx_py d hg, kitAny_or (isP_kit h1) (kitAny_or (isP_kit h2) kitAny_nil), k⟩
/-! data of a kind that is wanted -/
class Fr (α : Type) [Py α] where
  fr : PyData → Option α
  ok : ∀ d a, fr d = some a → d = toPy a
instance : Fr Int := ⟨fun d => match d with | .int i => some i | _ => none, fun d a h => by cases d <;> first | (cases h; rfl) | (cases h)⟩
instance : Fr Str := ⟨fun d => match d with | .str i => some i | _ => none, fun d a h => by cases d <;> first | (cases h; rfl) | (cases h)⟩
instance : Fr Bool := ⟨fun d => match d with | .bool i => some i | _ => none, fun d a h => by cases d <;> first | (cases h; rfl) | (cases h)⟩
def frAll (β : Type) [Py β] [Fr β] : List PyData → Option (List β)
  | [] => some []
  | d :: ds => match (Fr.fr d : Option β), frAll β ds with
    | some a, some as => some (a :: as)
    | _, _ => none
theorem frAll_ok {β : Type} [Py β] [Fr β] : ∀ {ds : List PyData} {as : List β}, frAll β ds = some as → ds = as.map Py.toPy
  | [], as, h => by cases h; rfl
  | d :: ds, as, h => by
    unfold frAll at h
    split at h
    · rename_i a as' e1 e2
      cases h
      rw [List.map_cons, ← frAll_ok e2, Fr.ok d a e1]
    · cases h
instance {β : Type} [Py β] [Fr β] : Fr (List β) := ⟨fun d => match d with | .list xs => frAll β xs | _ => none, fun d a h => by
  cases d <;> first | (cases h; done) | skip
  rename_i xs
  show PyData.list xs = .list (a.map Py.toPy)
  rw [frAll_ok (show frAll β xs = some a from h)]⟩
instance {β β' : Type} [Py β] [Fr β] [Py β'] [Fr β'] : Fr (β × β') := ⟨fun d => match d with
  | .tuple [x, y] => match (Fr.fr x : Option β), (Fr.fr y : Option β') with
    | some a, some b => some (a, b)
    | _, _ => none
  | _ => none, fun d p h => by
  split at h
  · rename_i x y
    split at h
    · rename_i a b e1 e2
      cases h
      rw [Fr.ok _ _ e1, Fr.ok _ _ e2]; rfl
    · cases h
  · cases h⟩
instance {β β' β'' : Type} [Py β] [Fr β] [Py β'] [Fr β'] [Py β''] [Fr β''] : Fr (P3 β β' β'') := ⟨fun d => match d with
  | .tuple [x, y, z] => match (Fr.fr x : Option β), (Fr.fr y : Option β'), (Fr.fr z : Option β'') with
    | some a, some b, some c => some ⟨a, b, c⟩
    | _, _, _ => none
  | _ => none, fun d p h => by
  split at h
  · rename_i x y z
    split at h
    · rename_i a b c e1 e2 e3
      cases h
      rw [Fr.ok _ _ e1, Fr.ok _ _ e2, Fr.ok _ _ e3]; rfl
    · cases h
  · cases h⟩
instance {β β' β'' γ' : Type} [Py β] [Fr β] [Py β'] [Fr β'] [Py β''] [Fr β''] [Py γ'] [Fr γ'] : Fr (P4 β β' β'' γ') := ⟨fun d => match d with
  | .tuple [x, y, z, u] => match (Fr.fr x : Option β), (Fr.fr y : Option β'), (Fr.fr z : Option β''), (Fr.fr u : Option γ') with
    | some a, some b, some c, some e => some ⟨a, b, c, e⟩
    | _, _, _, _ => none
  | _ => none, fun d p h => by
  split at h
  · rename_i x y z u
    split at h
    · rename_i a b c e e1 e2 e3 e4
      cases h
      rw [Fr.ok _ _ e1, Fr.ok _ _ e2, Fr.ok _ _ e3, Fr.ok _ _ e4]; rfl
    · cases h
  · cases h⟩
theorem y_fr {β : Type} [Py β] [Fr β] {x : PyData} {P : Prop} {f : β → W γ} (d : D K Ho v x) (hw : (W.bind (W.opt (Fr.fr x : Option β)) f).run Φ) (k : ∀ t, D K Ho v t → (f t).run Φ → P) : P := by
  obtain ⟨a, ea, hw⟩ := hw
  refine k a ?_ hw
  have e := Fr.ok x a ea
  show Dq K Ho v (toPy a)
  rw [← e]
  exact d
end
/-! xs.extend(ys), ys as it stands -/
theorem list_extendW (l : Addr) (items : Array Value) (n : Nat) (b : Addr) (items2 : Array Value) (n2 : Nat) (dd2 : Option Addr) (sl2 : Array (Option Value)) (hc0 : ¬(!items.isEmpty && Builtin.List.listTooLong (items.size + items2.size)) = true) (hc1 : items.size ≤ sizeLine) (hs2 : items.size + items2.size ≤ sizeLine + 1 := by seq_fits) :
    Meets (Builtin.«list.extend» ⟨[.ref l, .ref b], []⟩) (fun _ R s => s.heap.get? l = some { cls := .type "list", dict := none, data := .seq items n, slots := #[] } ∧ s.heap.get? b = some { cls := .type "list", dict := dd2, data := .seq items2 n2, slots := sl2 } ∧ R (.ok (.ret Value.none)) { s with heap := s.heap.update l (Obj.mapSeq fun x => x ++ items2), toks := s.toks }) :=
  .of_wp fun prog w A R s h => by
    obtain ⟨hp, g, d, tk, os⟩ := s; obtain ⟨hl, hb, h⟩ := h; have f1 := AutoSeq1.idx_int; have f2 := AutoSeq1.sub_tuple_tuple; have f3 := AutoSeq1.sub_list_list; have f4 := AutoSeq1.sub_tuple_list; have f5 := AutoSeq1.sub_list_tuple;
    have hz' : (items ++ items2).size ≤ sizeLine + 1 := by rw [Array.size_append]; exact hs2
    wp_walk using (wpAny_updateSeq hl rfl (hz := hc1) (_hz' := hz')), AutoSeq1.wpAny_loadPart' hl, AutoSeq1.wpAny_loadPart' hb; exact ⟨_, rfl, h⟩
def rExtendS (K : PySem.W.Frag) : V → List V → Hp → VK → Prop := fun x vs H Q => ∃ l b xs zs, x = .ref l ∧ vs = [.ref b] ∧ H l = some (.lst xs) ∧ SqL K H b zs ∧ xs.length + zs.length ≤ sizeLine ∧ Q .non (upd H l (.lst (xs ++ zs)))
theorem mt_extendS {X : Cx} : MtM X "list.extend" (rExtendS X.K) := by
  intro pins s σ H x vs v us Q I rx rv h
  obtain ⟨l, b, xs, zs, rfl, rfl, hH, hB, hz, q⟩ := h
  cases rx
  obtain ⟨u, rfl, ru⟩ := rv.one
  cases ru
  obtain ⟨z, its, n, r, hl, e⟩ := I.lstM hH
  obtain ⟨its2, r2, pl2, _⟩ := I.list hB
  have hl2 := r2.length
  obtain ⟨⟨cls2, dd2, data2, sl2⟩, ho2, hc2, n2, hd2⟩ := pl2.isList
  simp only at hc2 hd2
  subst hc2 hd2
  have hsz : its.toArray.size + its2.toArray.size ≤ sizeLine := by rw [List.size_toArray, List.size_toArray]; omega
  have hlong : ¬ (!its.toArray.isEmpty && Builtin.List.listTooLong (its.toArray.size + its2.toArray.size)) = true := by
    rw [notLongL hsz, Bool.and_false]
    exact Bool.false_ne_true
  refine call_meets F.slot_list_extend ⟨_, e, rfl⟩ F.entry_list_extend (F.args_list_extend_2 _ _)
    (list_extendW l its.toArray n b its2.toArray n2 dd2 sl2 hlong (by rw [List.size_toArray]; omega) (by omega)) ⟨e, ho2, ?_⟩
  refine ⟨.non, _, I.lset (its' := its ++ its2) hH e (by simp) (r.append r2) ?_, rfl, q⟩
  rw [List.length_append]
  omega
theorem zmt_extendS {X : Cx} {K : PySem.W.Frag} (hK : X.K = K) : MtM X "list.extend" (rExtendS K) := hK ▸ mt_extendS
section
variable {α γ : Type} [Py α] {K : PySem.W.Frag} {R : Grp} {H Ho : Hp} {Φ : γ → Prop} {Q : VK} {v w : V}
theorem g_extD {xs ys : List α} {g : Grp} {f : List α → W γ} (z : Zs (g ++ R) H Ho) (o : OL K Ho v xs g) (o2 : LV K (g ++ R) Ho w ys) (hw : (W.bind (exd xs ys) f).run Φ) (k : ∀ xs' g' H', Zs (g' ++ R) H' Ho → OL K Ho v xs' g' → (f xs').run Φ → Q .non H') : rExtendS K v [w] H Q := by
  obtain ⟨p, vs, rfl, d, rfl⟩ := o
  obtain ⟨q, us, rfl, d2, s2⟩ := LV.rd o2 z
  exact ⟨p, q, vs, us, rfl, rfl, z.head, s2, by rw [DL.len d, DL.len d2]; exact hw.1, k _ _ _ z.put ⟨p, _, rfl, d.append d2, rfl⟩ hw.2⟩
end
end Z

/-! # objects: their fields, their methods, how they are made -/
namespace Z
open PySem PySem.Spec PyProof.Rows L2
/-! fields by their places -/
theorem lk_zip : ∀ {ns : List Str} {vs : List V} {i : Nat} {f : Str} {v : V}, ns.Nodup → ns[i]? = some f → vs[i]? = some v → (ns.zip vs).lookup f = some v
  | [], _, _, _, _, _, h, _ => by cases h
  | _ :: _, [], _, _, _, _, _, h => by cases h
  | n :: ns, w :: vs, 0, f, v, _, h1, h2 => by
    cases h1
    cases h2
    rw [List.zip_cons_cons, List.lookup_cons, beq_self_eq_true]
  | n :: ns, w :: vs, i + 1, f, v, hn, h1, h2 => by
    have hm : f ∈ ns := List.mem_of_getElem? (show ns[i]? = some f from h1)
    have ne : f ≠ n := fun e => (List.nodup_cons.mp hn).1 (e ▸ hm)
    rw [List.zip_cons_cons, List.lookup_cons, beq_eq_false_iff_ne.mpr ne]
    exact lk_zip (List.nodup_cons.mp hn).2 h1 h2
theorem lk_none : ∀ {ns : List Str} {vs : List V} {f : Str}, f ∉ ns → (ns.zip vs).lookup f = none
  | [], _, _, _ => rfl
  | _ :: _, [], _, _ => rfl
  | n :: ns, w :: vs, f, h => by
    have ne : f ≠ n := fun e => h (by rw [e]; exact List.mem_cons_self)
    rw [List.zip_cons_cons, List.lookup_cons, beq_eq_false_iff_ne.mpr ne]
    exact lk_none fun m => h (List.mem_cons_of_mem _ m)
theorem put_zip : ∀ {ns : List Str} {vs : List V} {i : Nat} {f : Str} {v : V}, ns.Nodup → ns[i]? = some f → i < vs.length → putF f v (ns.zip vs) = ns.zip (vs.set i v)
  | [], _, _, _, _, _, h, _ => by cases h
  | _ :: _, [], _, _, _, _, _, h => by simp at h
  | n :: ns, w :: vs, 0, f, v, _, h1, _ => by
    cases h1
    show (if n = n then _ else _) = _
    rw [if_pos rfl]; rfl
  | n :: ns, w :: vs, i + 1, f, v, hn, h1, h2 => by
    have hm : f ∈ ns := List.mem_of_getElem? (show ns[i]? = some f from h1)
    have ne : ¬ n = f := fun e => (List.nodup_cons.mp hn).1 (e ▸ hm)
    show (if n = f then _ else (n, w) :: putF f v (ns.zip vs)) = (n, w) :: ns.zip (vs.set i v)
    rw [if_neg ne, put_zip (List.nodup_cons.mp hn).2 h1 (by simpa using h2)]
theorem put_new : ∀ {ns : List Str} {vs : List V} {f : Str} {v : V}, ns.Nodup → ns[vs.length]? = some f → putF f v (ns.zip vs) = ns.zip (vs ++ [v])
  | [], _, _, _, _, h => by simp at h
  | n :: ns, [], f, v, _, h => by
    cases h
    show [(n, v)] = _
    simp
  | n :: ns, w :: vs, f, v, hn, h => by
    have h : ns[vs.length]? = some f := h
    have hm : f ∈ ns := List.mem_of_getElem? h
    have ne : ¬ n = f := fun e => (List.nodup_cons.mp hn).1 (e ▸ hm)
    show (if n = f then _ else (n, w) :: putF f v (ns.zip vs)) = (n, w) :: ns.zip (vs ++ [v])
    rw [if_neg ne, put_new (List.nodup_cons.mp hn).2 h]
/-- a class of the text -/
structure CF (K : PySem.W.Frag) (q : Addr) (cn : Str) (ns : List Str) : Prop where
  at_ : PySem.W.nsIn K mainGlobals cn = some (some (.ref q))
  cl : Cls K q
  na : ∀ f ∈ ns, NoAttr K q f
  nd : ns.Nodup
  few : ns.length < 1000
theorem CF.eq {K : PySem.W.Frag} {q C : Addr} {cn : Str} {ns : List Str} (c : CF K q cn ns) (h : PySem.W.nsIn K mainGlobals cn = some (some (.ref C))) : q = C := by
  have e := c.at_.symm.trans h
  cases e
  rfl
theorem rowG_app {gs : List Grp} {R : Grp} : rowG gs [] ++ R = rowG gs R := by rw [rowG_eq, rowG_eq, List.append_nil]
def FldK (K : PySem.W.Frag) (Q : VK) (f : Str) (x : V) (H : Hp) : Prop := ∃ a C dx fs v, x = .ref a ∧ H a = some (.ins C dx fs) ∧ Cls K C ∧ NoAttr K C f ∧ fs.lookup f = some v ∧ Q v H
def SFldK (K : PySem.W.Frag) (N : Hp → Prop) (f : Str) (y x : V) (H : Hp) : Prop := ∃ a C dx fs, x = .ref a ∧ H a = some (.ins C dx fs) ∧ Cls K C ∧ NoAttr K C f ∧ fs.length < 1000 ∧ N (upd H a (.ins C dx (putF f y fs)))
def MetK (C : Addr) (m : Str) (G : V → Hp → Prop) (x : V) (H : Hp) : Prop := ∃ a dx fs, x = .ref a ∧ H a = some (.ins C dx fs) ∧ fs.lookup m = none ∧ G x H
def MkK (C : Addr) (G : V → Hp → Prop) (H : Hp) : Prop := ∀ x dx, H x = none → H dx = none → dx ≠ x → G (.ref x) (upd (upd H dx (.own x)) x (.ins C dx []))
def tMethS (C : Addr) (m : Str) (sp : Sp) (E : L2.St → XK) (ta : TE) (t : TA) : TE := fun σ H Q => ta σ H fun x H1 => MetK C m (fun x H1 => t σ H1 fun vs H2 => sp (x :: vs) H2 Q (E σ)) x H1
def tMakeS (C : Addr) (sp : Sp) (E : L2.St → XK) (t : TA) : TE := fun σ H Q => t σ H fun vs H1 => MkK C (fun x H2 => sp (x :: vs) H2 (fun v H3 => v = .non ∧ Q x H3) (E σ)) H1
section
variable {X : Cx} {CX : CXT} {k : Nat} {f C : Addr} {fd : FuncData} {ps : List Str} {sp : Sp} {E : L2.St → XK} {x m : Str} {p pos apos : Pos} {e o : Expr} {es : List Expr} {ta : TE} {t : TA}
theorem passAt0 {σ : L2.St} : PassesAt CX0 X σ (E σ) := fun pins H s e s' I c => pass0 pins σ H s e s' I c
theorem pe_methS' {pl : Sem Bool} (he : PE X o ta) (c : Cls X.K C) (hm : Meth X.K C m f) (F : FnOk X.prog X.w X.K X.mg X.base CX k f fd ps sp) (hr : Room k X.A) (hb : Binds X.K fd ps []) (hx : ∀ σ, PassesAt CX X σ (E σ)) (ha : PA X (e :: es) t)
    (hst : starEach (e :: es) X.env = (false, eval e X.env) :: starEach es X.env := by rfl) (hpl : (backTo pos (starEach es X.env)).any (·.1) = false := by rfl)
    (ht : eval (.Call (.Attribute o m apos) (e :: es) [] pos) X.env = (do
      let ov ← eval o X.env
      standAt apos.atName
      let (f, first) ← holding [ov] (getMethod ov m pl)
      callWith pos f first (backTo pos (starEach (e :: es) X.env)) (backToKw pos (keywordEach [] X.env))) := by rfl) :
    PE X (.Call (.Attribute o m apos) (e :: es) [] pos) (tMethS C m sp E ta t) := by
  refine ⟨fun pins s σ H Q I h => ?_⟩
  refine PySem.W.methodCall_KW (pl := pl) (thn (he.run pins s σ H _ I h) fun u s1 ⟨x, H1, I1, rx, a, dx, fs, ex, ea, l, q⟩ => ?_) ht
  subst ex
  obtain rfl : u = Value.ref a := rx
  refine getmeth_ok I1 ea c hm l ?_
  refine PySem.W.callWith_K (first := [.ref a]) (h₀ := X.base) I.ok.mod.kin hm.kp (thn (ha.run pos pins s1 σ H1 _ I1 q) fun us s2 ⟨vs, H2, I2, r, q2⟩ => ⟨I2.kIn, ?_⟩) hst hpl
  exact run_fnS (us := .ref a :: us) (vs := .ref a :: vs) F hr hb (hx σ) I2 (.cons rfl r) q2
theorem pe_methS0' {pl : Sem Bool} (he : PE X o ta) (c : Cls X.K C) (hm : Meth X.K C m f) (F : FnOk X.prog X.w X.K X.mg X.base CX k f fd ps sp) (hr : Room k X.A) (hb : Binds X.K fd ps []) (hx : ∀ σ, PassesAt CX X σ (E σ))
    (ht : eval (.Call (.Attribute o m apos) [] [] pos) X.env = (do
      let ov ← eval o X.env
      standAt apos.atName
      let (f, first) ← holding [ov] (getMethod ov m pl)
      callWith pos f first (backTo pos (starEach [] X.env)) (backToKw pos (keywordEach [] X.env))) := by rfl) :
    PE X (.Call (.Attribute o m apos) [] [] pos) (tMethS C m sp E ta tNil) := by
  refine ⟨fun pins s σ H Q I h => ?_⟩
  refine PySem.W.methodCall_KW (pl := pl) (thn (he.run pins s σ H _ I h) fun u s1 ⟨x, H1, I1, rx, a, dx, fs, ex, ea, l, q⟩ => ?_) ht
  subst ex
  obtain rfl : u = Value.ref a := rx
  refine getmeth_ok I1 ea c hm l ?_
  exact PySem.W.callWith_K0 (first := [.ref a]) I1.kIn hm.kp (run_fnS (us := [.ref a]) (vs := [.ref a]) F hr hb (hx σ) I1 (.cons rfl .nil) q)
theorem run_makeS {pins : List (Addr × Obj)} {σ : L2.St} {H : Hp} {s : Shared} {Q : VK} {us : List Value} {vs : List V} (M : Mk X.K C f) (F : FnOk X.prog X.w X.K X.mg X.base CX k f fd ps sp) (hr : Room (k + 1) X.A) (hb : Binds X.K fd ps [])
    (hx : PassesAt CX X σ (E σ)) (I : Inv X pins σ H s) (r : Vals vs us) (h : MkK C (fun x H2 => sp (x :: vs) H2 (fun v H3 => v = .non ∧ Q x H3) (E σ)) H) :
    wpAny (model X.prog X.w) X.A (call (.ref C) us) (EP X pins σ Q) X.xe s := by
  have hq := h (s.heap.objs.size + 1) s.heap.objs.size (I.hok.fresh (Nat.le_succ _)) (I.hok.fresh (Nat.le_refl _)) (Nat.ne_of_lt (Nat.lt_succ_self _))
  have I2 := Inv.made (C := C) I
  have r2 : Vals (V.ref (s.heap.objs.size + 1) :: vs) (Value.ref (s.heap.objs.size + 1) :: us) := .cons rfl r
  have hl : (Value.ref (s.heap.objs.size + 1) :: us ++ []).length = ps.length := by
    rw [List.append_nil]
    have e := r2.length
    rw [F.len _ _ _ _ hq] at e
    exact e.symm
  have hb' := hb _ (Value.ref (s.heap.objs.size + 1) :: us) I2.kIn hl
  rw [List.append_nil] at hb'
  refine wpAny_call (make_map (f := f) I.kIn M.makes M.init (beq_iff_eq.mp M.fn) (codeAny_mono (F.run _ X.stack _ _ ⟨Value.ref (s.heap.objs.size + 1) :: us, []⟩ (Value.ref (s.heap.objs.size + 1) :: us) _ _ (E σ) (hr.make C us [])
    (I2.env0.make C us []) hb' r2 hq) fun r s' hq' => ?_))
  cases r with
  | error e => exact hx pins _ _ e s' I2 hq'
  | ok fl =>
    cases fl with
    | ret u =>
      obtain ⟨v, H', I3, rv, ev, q3⟩ := I2.after hq'
      subst ev
      exact ⟨rv, ⟨V.ref (s.heap.objs.size + 1), H', I3, rfl, q3⟩⟩
    | next => exact False.elim hq'
    | brk => exact False.elim hq'
    | cont => exact False.elim hq'
theorem pe_makeS (M : Mk X.K C f) (F : FnOk X.prog X.w X.K X.mg X.base CX k f fd ps sp) (hr : Room (k + 1) X.A) (hg : Gl X x) (hm : X.mg x = some (.ref C)) (hb : Binds X.K fd ps []) (hx : ∀ σ, PassesAt CX X σ (E σ))
    (ha : PA X (e :: es) t) (hdb : (x == ("__debug__" : Str)) = false := by decide) (he : starEach (e :: es) X.env = (false, eval e X.env) :: starEach es X.env := by rfl) (hpl : (backTo pos (starEach es X.env)).any (·.1) = false := by rfl) :
    PE X (.Call (.Name x p) (e :: es) [] pos) (tMakeS C sp E t) := by
  refine ⟨fun pins s σ H Q I h => ?_⟩
  refine wpAny_Call_Name_kw (ld_glob I hg hm ?_ hdb)
  refine PySem.W.callWith_K (h₀ := X.base) I.ok.mod.kin M.kp (thn (ha.run pos pins s σ H _ I h) fun us s1 ⟨vs, H1, I1, r, q⟩ => ⟨I1.kIn, ?_⟩) he hpl
  exact run_makeS M F hr hb (hx σ) I1 r q
theorem pe_makeS0 (M : Mk X.K C f) (F : FnOk X.prog X.w X.K X.mg X.base CX k f fd ps sp) (hr : Room (k + 1) X.A) (hg : Gl X x) (hm : X.mg x = some (.ref C)) (hb : Binds X.K fd ps []) (hx : ∀ σ, PassesAt CX X σ (E σ))
    (hdb : (x == ("__debug__" : Str)) = false := by decide) : PE X (.Call (.Name x p) [] [] pos) (tMakeS C sp E tNil) := by
  refine ⟨fun pins s σ H Q I h => ?_⟩
  refine wpAny_Call_Name_kw (ld_glob I hg hm ?_ hdb)
  exact PySem.W.callWith_K0 I.kIn M.kp (run_makeS (us := []) M F hr hb (hx σ) I .nil h)
theorem zpe_fld {K : PySem.W.Frag} {fl : Str} (hK : X.K = K) (he : PE X e ta) (hb : attributeBase e fl X.env (eval e X.env) = eval e X.env) : PE X (.Attribute e fl pos) (tFld K ta fl) := hK ▸ pe_fld he hb
theorem zps_fld {K : PySem.W.Frag} {fl : Str} {value : Expr} {tv : TE} {pos' : Pos} (hK : X.K = K) (ha : PE X o ta) (hv : PE X value tv) (hs : swapsWith value (some (.Attribute o fl pos')) pos.line X.env = pure false) : PS X (.Assign [.Attribute o fl pos'] value pos) (sFld K ta tv fl) := hK ▸ ps_fld ha hv hs
end
section
variable {K : PySem.W.Frag} {rs R : Grp} {H Ho : Hp} {σ : L2.St} {Q : VK} {QH : Hp → Prop} {v y : V} {a dx q : Addr} {cn f m : Str} {ns : List Str} {vs : List V} {i : Nat} {ta tv : TE} {t : TA} {u : TS} {D : Ends} {C : Addr} {sp : Sp} {E : L2.St → XK} {G : V → Hp → Prop}
theorem y_fld (k : ta σ H fun x H1 => FldK K Q f x H1) : tFld K ta f σ H Q := k
theorem y_sfld (k : tv σ H fun y H1 => LetV (fun y => ta σ H1 fun x H2 => SFldK K (fun H3 => u D σ H3) f y x H2) y) : tSeq (sFld K ta tv f) u D σ H := k
theorem y_meth (k : ta σ H fun x H1 => MetK C m (fun x H1 => t σ H1 fun vs H2 => sp (x :: vs) H2 Q (E σ)) x H1) : tMethS C m sp E ta t σ H Q := k
theorem y_make (k : t σ H fun vs H1 => MkK C (fun x H2 => sp (x :: vs) H2 (fun v H3 => v = .non ∧ Q x H3) (E σ)) H1) : tMakeS C sp E t σ H Q := k
theorem o_fld (c : CF K q cn ns) (hm : ∀ r ∈ ([(a, HO.ins q dx (ns.zip vs))] : Grp), r ∈ rs) (z : Zs rs H Ho) (hn : ns[i]? = some f) (hv : vs[i]? = some v) (k : Q v H) : FldK K Q f (.ref a) H :=
  ⟨a, q, dx, _, v, rfl, (z.rt _ (hm _ List.mem_cons_self)).1, c.cl, c.na f (List.mem_of_getElem? hn), lk_zip c.nd hn hv, k⟩
/-- what an instance that stands for good is as data -/
def pyIns (cn : Str) (ns : List Str) (ds : List PyData) : PyData := .dict [(.str cn, .list (ns.map .str)), (.none, .tuple ds)]
theorem strs_inj : ∀ {ns ms : List Str}, ns.map PyData.str = ms.map PyData.str → ns = ms
  | [], [], _ => rfl
  | [], _ :: _, h => by cases h
  | _ :: _, [], h => by cases h
  | n :: ns, m :: ms, h => by
    rw [List.map_cons, List.map_cons] at h
    injection h with h1 h2
    injection h1 with h1
    rw [h1, strs_inj h2]
theorem dq_ins {d : PyData} {ds : List PyData} (h : Dq K Ho v d) (e : d = pyIns cn ns ds) : ∃ a C dx vs, v = .ref a ∧ PySem.W.nsIn K mainGlobals cn = some (some (.ref C)) ∧ Ho a = some (.ins C dx (ns.zip vs)) ∧ DqAll K Ho vs ds := by
  cases h with
  | @ins a dx C cn' ns' vs ds' hC hs hd =>
    unfold pyIns at e
    injection e with e
    injection e with e1 e2
    injection e1 with e3 e4
    injection e3 with e3
    injection e4 with e4
    injection e2 with e5 _
    injection e5 with _ e6
    injection e6 with e6
    have e7 := strs_inj e4
    subst e3 e7 e6
    exact ⟨a, C, dx, vs, rfl, hC, hs, hd⟩
  | _ => cases e
theorem o_fldD {α β : Type} [Py α] [Py β] {x : α} {w : β} {ds : List PyData} (c : CF K q cn ns) (d : Z.D K Ho v x) (hx : toPy x = pyIns cn ns ds) (z : Zs rs H Ho) (hn : ns[i]? = some f) (hd : ds[i]? = some (toPy w)) (k : ∀ u, Z.D K Ho u w → Q u H) : FldK K Q f v H := by
  obtain ⟨a, C, dx, vs, rfl, hC, hs, ha⟩ := dq_ins d hx
  obtain rfl := c.eq hC
  obtain ⟨u, hu, du⟩ := dpAll_get ha hd
  exact ⟨a, q, dx, _, u, rfl, z.le _ _ hs, c.cl, c.na f (List.mem_of_getElem? hn), lk_zip c.nd hn hu, k u du⟩
theorem len_zip_few {vs : List V} (c : CF K q cn ns) : (ns.zip vs).length < 1000 := by
  rw [List.length_zip]
  have := c.few
  omega
/-- a field gets a value -/
theorem o_sfld (c : CF K q cn ns) (z : Zs ([(a, HO.ins q dx (ns.zip vs))] ++ R) H Ho) (hn : ns[i]? = some f) (hi : i < vs.length) (k : ∀ H', Zs ([(a, HO.ins q dx (ns.zip (vs.set i y)))] ++ R) H' Ho → QH H') : SFldK K QH f y (.ref a) H :=
  ⟨a, q, dx, _, rfl, Zs.head z, c.cl, c.na f (List.mem_of_getElem? hn), len_zip_few c, by
    rw [put_zip c.nd hn hi]
    exact k _ (Zs.put z)⟩
theorem o_nfld (c : CF K q cn ns) (z : Zs ([(a, HO.ins q dx (ns.zip vs))] ++ R) H Ho) (hn : ns[vs.length]? = some f) (k : ∀ H', Zs ([(a, HO.ins q dx (ns.zip (vs ++ [y])))] ++ R) H' Ho → QH H') : SFldK K QH f y (.ref a) H :=
  ⟨a, q, dx, _, rfl, Zs.head z, c.cl, c.na f (List.mem_of_getElem? hn), len_zip_few c, by
    rw [put_new c.nd hn]
    exact k _ (Zs.put z)⟩
theorem o_met (hm : ∀ r ∈ ([(a, HO.ins q dx (ns.zip vs))] : Grp), r ∈ rs) (z : Zs rs H Ho) (hn : m ∉ ns) (k : G (.ref a) H) : MetK q m G (.ref a) H :=
  ⟨a, dx, _, rfl, (z.rt _ (hm _ List.mem_cons_self)).1, lk_none hn, k⟩
theorem o_mk (z : Zs rs H Ho) (k : ∀ a dx H' Ho', Same Ho Ho' → Zs ([(a, HO.ins C dx (ns.zip []))] ++ rs) H' Ho' → G (.ref a) H') : MkK C G H := fun x dx hx hd ne => by
  have e : Same Ho (upd Ho dx (.own x)) := Same.new (z.free hd)
  refine k x dx _ _ e ?_
  have z1 : Zs rs (upd H dx (.own x)) (upd Ho dx (.own x)) := z.alloc hd
  have hx' : (upd H dx (.own x)) x = none := by rw [upd_ne (fun e => ne e.symm)]; exact hx
  have z2 := z1.root (o := HO.ins C dx (ns.zip [])) hx'
  rw [List.zip_nil_right] at z2 ⊢
  exact z2
end
section
variable {β γ : Type} {R : Grp} {H Ho : Hp} {Φ : γ → Prop}
theorem h_nmG {P : β → Prop} {X : Prop} {e : β} {f : β → W γ} (hw : (W.bind (W.ret e) f).run Φ) (o : P e) (k : ∀ x, P x → (f x).run Φ → X) : X := k e o hw
theorem l_oG {P : V → β → Grp → Prop} {G : V → Prop} {v : V} {e : β} {g : Grp} {f : β → W γ} (hw : (W.bind (W.ret e) f).run Φ) (z : Zs (g ++ R) H Ho) (o : P v e g) (k : ∀ x v g, Zs (g ++ R) H Ho → P v x g → (f x).run Φ → G v) : LetV G v := k e v g z o hw
end
/-- a method that stands at f -/
structure MCal (P : Program) (w : World) (K : PySem.W.Frag) (mg : Str → Option Value) (base : Heap) (CX : CXT) (q : Addr) (m : Str) (ps : List Str) (k : Nat) (sp : Sp) (f : Addr) (fd : FuncData) : Prop where
  ok : FnOk P w K mg base CX k f fd ps sp
  me : Meth K q m f
  b : Binds K fd ps []
/-- a class's __init__ -/
structure KCal (P : Program) (w : World) (K : PySem.W.Frag) (mg : Str → Option Value) (base : Heap) (CX : CXT) (q : Addr) (cn : Str) (ps : List Str) (k : Nat) (sp : Sp) (f : Addr) (fd : FuncData) : Prop where
  ok : FnOk P w K mg base CX k f fd ps sp
  mk_ : Mk K q f
  g : mg cn = some (.ref q)
  b : Binds K fd ps []
end Z

/-! # objects whose class has its own len, str, ==; isinstance; a dict's copy -/
namespace NeX
open PySem PySem.Spec PyProof.Rows PySem.SeqAt PySem.W Builtin
section
variable {M : Model} {prog : Program} {w : World} {A : Around} {E : Value → Shared → Prop} {s : Shared} {K : PySem.W.Frag} {x y C f : Addr} {ox oy : Obj} {od od' : Option Obj}
theorem ifBound_objNe {args : List Value} {Q : Option Value → Shared → Prop} (X : K.In s.heap) (I : PySem.W.InstAt s.heap x ox C od) (hs : PySem.W.findIn K (.ref C) "__ne__" = some (some (.builtin "object.__ne__")))
    (h : wpAny M A (call (.builtin "object.__ne__") (.ref x :: args)) (fun v => Q (some v)) E s) : wpAny M A (callSpecialIfBound? (.ref x) "__ne__" args) Q E s := by
  simp only [callSpecialIfBound?, bindSpecialIfBound?]
  refine wpAny_holding (wpAny_bind (wpAny_bind (wpAny_bind (I.type.here ((PySem.W.looks_findIn X hs).here ?_)))))
  refine wpAny_bind (wpAny_askSetting (wpAny_ite ?_))
  have fin : wpAny M A (call (.builtin "object.__ne__") ([.ref x] ++ args) >>= fun v => pure (some v)) Q E s := wpAny_bind (wpAny_mono h (fun v s' h' => wpAny_pure h') fun _ _ h' => h')
  split
  · exact wpAny_bind (wpAny_of_eq (F.cmp_object.ne.bind _) (wpAny_pure (by exact fin)))
  · exact wpAny_tryCatch (wpAny_bind (wpAny_of_eq (F.cmp_object.ne.bind _) (wpAny_pure (by exact fin))))
theorem entry_ne {Q : Fin → Shared → Prop} (hu : A.units < cLine) (X : K.In s.heap) (I : PySem.W.InstAt s.heap x ox C od) (hs : PySem.W.findIn K (.ref C) "__eq__" = some (some (.ref f))) (hf : PySem.W.isFn K (.ref f) = true)
    (hcall : wpAny (model prog w) A (call (.ref f) [.ref x, .ref y]) (fun v s' => ∃ b, v = .bool b ∧ Q (.done (.ret (.bool (!b)))) s') E s) : wpAny (model prog w) A (Builtin.«object.__ne__» ⟨[.ref x, .ref y], []⟩) Q E s := by
  unfold Builtin.«object.__ne__»
  repeat (first
    | with_reducible refine wpAny_cRoomFor hu ?_
    | (refine wpAny_bind (m := callSpecialIfBound? (.ref x) (Str.ofString "__eq__") [.ref y])
        (PySem.W.ifBound_K X I hs hf (wpAny_mono hcall (fun r s' hr => by
          obtain ⟨b, rfl, hq⟩ := hr
          repeat (first | exact hq | exact wpAny_pure hq | exact wpAny_truthy_bool hq | (refine wpAny_bind (m := truthy (.bool _)) (wpAny_truthy_bool ?_)) | wp_step)) fun _ _ e => e)))
    | wp_step)
theorem ne_K {Q : Value → Shared → Prop} (hu : A.units < cLine) (hu1 : A.in1.units < cLine) (X : K.In s.heap) (I : PySem.W.InstAt s.heap x ox C od) (J : PySem.W.InstAt s.heap y oy C od')
    (hne : PySem.W.findIn K (.ref C) "__ne__" = some (some (.builtin "object.__ne__"))) (hm : PySem.W.mroIn K C (.type "object") = some true)
    (hs : PySem.W.findIn K (.ref C) "__eq__" = some (some (.ref f))) (hf : PySem.W.isFn K (.ref f) = true)
    (h : wpAny (model prog w) A.in1 (call (.ref f) [.ref x, .ref y]) (fun v s' => ∃ b, v = .bool b ∧ Q (.bool (!b)) s') E s) : wpAny (model prog w) A (richCompare .NotEq (.ref x) (.ref y)) Q E s := by
  have one : wpAny (model prog w) A (tryCompare (.ref x) "__ne__" (.ref y)) (fun r s' => ∃ b, r = some (.bool b) ∧ Q (.bool b) s') E s := by
    unfold tryCompare
    refine wpAny_bind (ifBound_objNe X I hne (wpAny_call (codeAny_call_builtin F.cmp_object.ne.plain F.cmpEntry_ne (PySem.W.check_slot F.cmpKind_ne F.cmpSplit_ne (I.type.andThen (PySem.W.looks_mroIn X hm)) (F.cmpArgs_ne _ _) (entry_ne hu1 X I hs hf (wpAny_mono h (fun v s' hv => ?_) fun _ _ e => e))))))
    obtain ⟨b, rfl, hq⟩ := hv
    first | exact ⟨b, rfl, wpAny_pure ⟨_, rfl, hq⟩⟩ | exact ⟨b, rfl, wpAny_pure (wpAny_pure ⟨_, rfl, hq⟩)⟩
  unfold richCompare
  simp only [oneThing_ref, cmpInfo_NotEq]
  refine wpAny_holding (wpAny_bind (wpAny_cRoomFor hu ?_))
  refine wpAny_bind (I.type.here (wpAny_bind (J.type.here ?_)))
  split
  · rename_i q
    exact absurd q (by simp)
  · refine wpAny_bind (wpAny_pure ?_)
    simp only [Bool.false_eq_true, if_false]
    refine wpAny_bind (wpAny_mono one (fun r s' z => ?_) fun _ _ e => e)
    obtain ⟨v, rfl, hq⟩ := z
    exact wpAny_pure hq
end
end NeX
namespace Z
open PySem PySem.Spec PyProof.Rows L2
section
variable {X : Cx} {pins : List (Addr × Obj)} {σ : L2.St} {H : Hp} {s : Shared} {C f : Addr} {fd : FuncData} {ps : List Str} {sp : Sp} {k : Nat}
theorem run_atS {A : Around} {E : XK} {Q : VK} {us : List Value} {vs : List V} (F : FnOk X.prog X.w X.K X.mg X.base CX0 k f fd ps sp) (hr : Room k A) (e0 : Env0 X.prog X.w X.K X.mg X.base A X.stack s H) (hb : Binds X.K fd ps []) (I : Inv X pins σ H s) (r : Vals vs us) (h : sp vs H Q E) :
    wpAny (model X.prog X.w) A (call (.ref f) us) (EP X pins σ Q) X.xe s := by
  have hl : us.length = ps.length := by rw [← r.length]; exact F.len _ _ _ _ h
  have b := hb s us I.kIn (by rw [List.append_nil]; exact hl)
  rw [List.append_nil] at b
  refine wpAny_call (codeAny_mono (F.run A X.stack s H ⟨us, []⟩ us vs Q E hr e0 b r h) fun r s' hq => ?_)
  cases r with
  | error e => exact pass0 pins σ H s e s' I hq
  | ok fl =>
    cases fl with
    | ret u => exact I.after hq
    | next => exact False.elim hq
    | brk => exact False.elim hq
    | cont => exact False.elim hq
def rLenO (C : Addr) (sp : Sp) : List V → Hp → VK → Prop := fun xs H Q => ∃ a dx fs, xs = [.ref a] ∧ H a = some (.ins C dx fs) ∧ sp [.ref a] H (fun z H' => ∃ n : Int, z = .int n ∧ 0 ≤ n ∧ n < 2 ^ 63 ∧ Q (.int n) H') E0
theorem call_lenO (hm : Meth X.K C "__len__" f) (F : FnOk X.prog X.w X.K X.mg X.base CX0 k f fd ps sp) (hr : Room (k + 1) X.A) (hb : Binds X.K fd ps []) : CallR X (.builtin "len") (rLenO C sp) := by
  intro pins s σ H xs us Q I r h
  obtain ⟨a, dx, fs, rfl, ha, q⟩ := h
  obtain ⟨u, rfl, ru⟩ := vals1 r
  cases (show u = Value.ref a from ru)
  obtain ⟨mA, J, _⟩ := ins_get I.hok ha
  obtain ⟨od, J, _⟩ := J.look
  obtain ⟨m, hF⟩ := I.fr
  refine PySem.W.len_K hF I.ok.mod.kin J hm.at_ hm.fn (wpAny_mono (run_atS (us := [.ref a]) (vs := [.ref a]) F hr.in1 I.env0.in1 hb I (.cons rfl .nil) q) (fun w s' z => ?_) fun _ _ x => x)
  obtain ⟨z', H', I', rz, n, en, n0, n1, qz⟩ := z
  subst en
  obtain ⟨t, e⟩ := (show ∃ t, w = Value.int n t from rz)
  cases e
  exact ⟨⟨n0, n1⟩, .int n, H', I'.tok _, ⟨_, rfl⟩, qz⟩
def rStrO (C : Addr) (sp : Sp) : List V → Hp → VK → Prop := fun xs H Q => ∃ a dx fs, xs = [.ref a] ∧ H a = some (.ins C dx fs) ∧ sp [.ref a] H (fun z H' => ∃ y : Str, z = .str y ∧ Q (.str y) H') E0
theorem call_strO (hm : Meth X.K C "__str__" f) (F : FnOk X.prog X.w X.K X.mg X.base CX0 k f fd ps sp) (hr : Room (k + 2) X.A) (hb : Binds X.K fd ps []) : CallR X (.type "str") (rStrO C sp) := by
  intro pins s σ H xs us Q I r h
  obtain ⟨a, dx, fs, rfl, ha, q⟩ := h
  obtain ⟨u, rfl, ru⟩ := vals1 r
  cases (show u = Value.ref a from ru)
  obtain ⟨mA, J, _⟩ := ins_get I.hok ha
  obtain ⟨od, J, _⟩ := J.look
  have hr2 : Room k X.A.in1.in1 := (show Room (k + 1) X.A.in1 from Room.in1 hr).in1
  refine PySem.W.kso_call hr2.units0 I.kIn J hm.at_ hm.fn (wpAny_mono (run_atS (us := [.ref a]) (vs := [.ref a]) F hr2 I.env0.in1.in1 hb I (.cons rfl .nil) q) (fun w s' z => ?_) fun _ _ x => x)
  obtain ⟨z', H', I', rz, y, en, qz⟩ := z
  subst en
  obtain ⟨t, e⟩ := (show ∃ t, w = Value.str y t from rz)
  cases e
  exact ⟨.str y, H', I', ⟨t, rfl⟩, qz⟩
def rEqO (C : Addr) (sp : Sp) : R2 := fun x y H Q => ∃ a b dx dy fs gs, x = .ref a ∧ y = .ref b ∧ H a = some (.ins C dx fs) ∧ H b = some (.ins C dy gs) ∧ sp [x, y] H Q E0
theorem op_eqO (hm : Meth X.K C "__eq__" f) (F : FnOk X.prog X.w X.K X.mg X.base CX0 k f fd ps sp) (hr : Room k X.A) (hb : Binds X.K fd ps []) : OpR X (compareOp .Eq) (rEqO C sp) := by
  intro pins s σ H x y v u Q I rx ry h
  obtain ⟨a, b, dx, dy, fs, gs, rfl, rfl, ha, hb', q⟩ := h
  cases (show v = Value.ref a from rx)
  cases (show u = Value.ref b from ry)
  obtain ⟨mA, J, _⟩ := ins_get I.hok ha
  obtain ⟨mB, J', _⟩ := ins_get I.hok hb'
  obtain ⟨od, J, _⟩ := J.look
  obtain ⟨od', J', _⟩ := J'.look
  obtain ⟨m, hF⟩ := I.fr
  show wpAny (model X.prog X.w) X.A (richCompare .Eq (.ref a) (.ref b)) (EP X pins σ Q) X.xe s
  refine PySem.W.cmp_K (op := .Eq) (tb := .ref C) hr.units0 hF I.ok.mod.kin J J'.type (by simp [PySem.W.notFirst]) hm.at_ hm.fn ?_
  refine wpAny_mono (run_atS (us := [.ref a, .ref b]) (vs := [.ref a, .ref b]) F hr I.env0 hb I (.cons rfl (.cons rfl .nil)) q) (fun w s' z => ?_) fun _ _ x => x
  obtain ⟨z', H', I', rz, qz⟩ := z
  exact SlX.cmpback rz ⟨z', H', I', rz, qz⟩
end
/-- what != asks of a class -/
structure NI (K : PySem.W.Frag) (q : Addr) : Prop where
  ne : PySem.W.findIn K (.ref q) "__ne__" = some (some (.builtin "object.__ne__"))
  mo : PySem.W.mroIn K q (.type "object") = some true
section
variable {X : Cx} {C f : Addr} {fd : FuncData} {ps : List Str} {sp : Sp} {k : Nat}
def rNeO (C : Addr) (sp : Sp) : R2 := fun x y H Q => ∃ a b dx dy fs gs, x = .ref a ∧ y = .ref b ∧ H a = some (.ins C dx fs) ∧ H b = some (.ins C dy gs) ∧ sp [x, y] H (fun z H' => ∃ t : Bool, z = .bl t ∧ Q (.bl (!t)) H') E0
theorem op_neO (ni : NI X.K C) (hm : Meth X.K C "__eq__" f) (F : FnOk X.prog X.w X.K X.mg X.base CX0 k f fd ps sp) (hr : Room (k + 1) X.A) (hb : Binds X.K fd ps []) : OpR X (compareOp .NotEq) (rNeO C sp) := by
  intro pins s σ H x y v u Q I rx ry h
  obtain ⟨a, b, dx, dy, fs, gs, rfl, rfl, ha, hb', q⟩ := h
  cases (show v = Value.ref a from rx)
  cases (show u = Value.ref b from ry)
  obtain ⟨mA, J, _⟩ := ins_get I.hok ha
  obtain ⟨mB, J', _⟩ := ins_get I.hok hb'
  obtain ⟨od, J, _⟩ := J.look
  obtain ⟨od', J', _⟩ := J'.look
  show wpAny (model X.prog X.w) X.A (richCompare .NotEq (.ref a) (.ref b)) (EP X pins σ Q) X.xe s
  refine NeX.ne_K hr.units0 hr.in1.units0 I.kIn J J' ni.ne ni.mo hm.at_ hm.fn (wpAny_mono (run_atS (us := [.ref a, .ref b]) (vs := [.ref a, .ref b]) F hr.in1 I.env0.in1 hb I (.cons rfl (.cons rfl .nil)) q) (fun w s' z => ?_) fun _ _ x => x)
  obtain ⟨z', H', I', rz, t, et, qz⟩ := z
  subst et
  cases (show w = Value.bool t from rz)
  exact ⟨t, rfl, .bl (!t), H', I', rfl, qz⟩
end
/-- what isinstance asks of a class -/
structure CI (K : PySem.W.Frag) (q : Addr) : Prop where
  ca : PySem.W.findIn K (.ref q) "__class__" = some (some (.builtin "object.__class__"))
  cn : PySem.W.specialIn K (.builtin "object.__class__") "__get__" = some (some (.builtin "getset_descriptor.__get__"))
  ct : PySem.W.takesIn K (.builtin "object.__class__") = some true
  cm : PySem.W.mroIn K q (.type "object") = some true
  kt : PySem.W.kitOne K (.ref q) (.ref q) = some true
section
variable {K : PySem.W.Frag} {H Ho : Hp} {R : Grp} {Q : VK} {C q : Addr} {v w : V} {sp : Sp} {m : Str} {cn : Str} {ns : List Str} {α : Type} [Py α]
theorem y_lenO (k : MetK C "__len__" (fun x H => sp [x] H (fun z H' => ∃ n : Int, z = .int n ∧ 0 ≤ n ∧ n < 2 ^ 63 ∧ Q (.int n) H') E0) v H) : rLenO C sp [v] H Q := by
  obtain ⟨a, dx, fs, rfl, h, _, k⟩ := k
  exact ⟨a, dx, fs, rfl, h, k⟩
theorem y_strO (k : MetK C "__str__" (fun x H => sp [x] H (fun z H' => ∃ y : Str, z = .str y ∧ Q (.str y) H') E0) v H) : rStrO C sp [v] H Q := by
  obtain ⟨a, dx, fs, rfl, h, _, k⟩ := k
  exact ⟨a, dx, fs, rfl, h, k⟩
theorem y_eqO (k : MetK C "__eq__" (fun x H => MetK C "__eq__" (fun y H => sp [x, y] H Q E0) w H) v H) : rEqO C sp v w H Q := by
  obtain ⟨a, dx, fs, rfl, h, _, k⟩ := k
  obtain ⟨b, dy, gs, rfl, h', _, k⟩ := k
  exact ⟨a, b, dx, dy, fs, gs, rfl, rfl, h, h', k⟩
theorem y_neO (k : MetK C "__eq__" (fun x H => MetK C "__eq__" (fun y H => sp [x, y] H (fun z H' => ∃ t : Bool, z = .bl t ∧ Q (.bl (!t)) H') E0) w H) v H) : rNeO C sp v w H Q := by
  obtain ⟨a, dx, fs, rfl, h, _, k⟩ := k
  obtain ⟨b, dy, gs, rfl, h', _, k⟩ := k
  exact ⟨a, b, dx, dy, fs, gs, rfl, rfl, h, h', k⟩
theorem y_isiO' (c : CF K q cn ns) (ci : CI K q) (k : MetK q "__eq__" (fun _ H => Q (.bl true) H) v H) : rIsi K [v, .ref q] H Q := by
  obtain ⟨a, dx, fs, rfl, h, _, k⟩ := k
  exact ⟨_, _, _, _, true, rfl, .own q, .base (.ins h c.cl ci.ca ci.cn ci.ct ci.cm), ci.kt, k⟩
theorem zstrS {X : Cx} : CallR X (.type "str") (fun xs H Q => ∃ a, xs = [.str a] ∧ Q (.str a) H) := SkE.call_str_str
theorem y_strS {y : Str} (k : Q (.str y) H) : (fun (xs : List V) (H : Hp) (Q : VK) => ∃ a, xs = [.str a] ∧ Q (.str a) H) [.str y] H Q := ⟨y, rfl, k⟩
def rDcp : List V → Hp → VK → Prop := fun xs H Q => ∃ (a : Addr) (kvs : List (Key × V)), xs = [.ref a] ∧ Rd H a (.dK kvs) ∧ ∀ p, H p = none → Q (.ref p) (upd H p (.dK kvs))
theorem zdcp {X : Cx} : CallR X (.type "dict") rDcp := call_dictD
theorem y_dcp {m : Dc Int α} (b : BD K R Ho v m) (z : Zs R H Ho) (k : ∀ p H' g, Zs (g ++ R) H' Ho → OD K Ho (.ref p) m g → Q (.ref p) H') : rDcp [v] H Q := by
  obtain ⟨p, kvs, rfl, d, h⟩ := b.rd z
  refine ⟨p, kvs, rfl, .of h, fun a ha => ?_⟩
  exact k a _ [(a, DKey.ho (κ := Int) kvs)] (z.root ha) ⟨a, kvs, rfl, d, rfl⟩
end
end Z

/-! # min(xs, key=len, default=None), xs a list of lists; displays of dicts with one key -/
namespace Z
open PySem PySem.Spec PyProof.Rows L2
/-- where the shortest stands first -/
def atMin (ns : List Nat) : Nat := argBest (fun i j => decide ((ns.getD i 0 : Int) < (ns.getD j 0 : Int))) (ns.length - 1)
def mnLen {α : Type} (xs : List (List α)) : Option (List α) := xs[atMin (xs.map (·.length))]?
def rMinLen (K : PySem.W.Frag) : List V → Hp → VK → Prop := fun xs H Q => ∃ (l : Addr) (us : List V) (ns : List Nat), xs = [.ref l] ∧ SqL K H l us ∧ us.length = ns.length ∧ (∀ (i : Nat) (u : V), us[i]? = some u → ∃ a vs, u = .ref a ∧ SqL K H a vs ∧ vs.length = ns.getD i 0) ∧
  (us = [] → Q .non H) ∧ ∀ u, us[atMin ns]? = some u → Q u H
section
variable {X : Cx} {pins : List (Addr × Obj)} {σ : L2.St} {H : Hp} {s : Shared} {Q : VK}
/-- a heap that has grown -/
def Grown (s s' : Shared) : Prop := (∃ h' tk, s' = { s with heap := h', toks := tk }) ∧ ∀ b o, s.heap.get? b = some o → s'.heap.get? b = some o
theorem Grown.moved {s s1 s2 : Shared} {wr : List Addr} (g : Grown s s1) (m : Moved wr (fun a b => b = a) s1 s2) (hw : ∀ b ∈ wr, s.heap.objs.size ≤ b) : Grown s s2 := by
  obtain ⟨⟨h1, t1, rfl⟩, k⟩ := g
  have e1 : s2.gens = s.gens := m.gens
  have e2 : s2.drawn = s.drawn := m.drawn
  have e3 : s2.os = s.os := m.os
  refine ⟨⟨s2.heap, s2.toks, ?_⟩, fun b o e => m.heap b o (fun hb => ?_) (k b o e)⟩
  · obtain ⟨hp, g, d, tk, os⟩ := s2
    dsimp only at e1 e2 e3
    subst e1 e2 e3
    rfl
  · exact absurd (Nat.lt_of_lt_of_le (Heap.lt_size e) (hw b hb)) (Nat.lt_irrefl b)
theorem paired_get {α β : Type} {F : α → β → Prop} : ∀ {xs : List α} {ys : List β}, Paired F xs ys → ∀ (i : Nat) (y : β), ys[i]? = some y → ∃ x, xs[i]? = some x ∧ F x y
  | _, _, .nil, i, y, e => by simp at e
  | _, _, .cons h t, 0, y, e => by cases e; exact ⟨_, rfl, h⟩
  | _, _, .cons h t, i + 1, y, e => paired_get t i y e
theorem call_minLen (hc : X.calm = true) (I : Inv X pins σ H s) {l : Addr} {us : List V} {ns : List Nat} (hs : SqL X.K H l us) (hn : us.length = ns.length) (hi : ∀ (i : Nat) (u : V), us[i]? = some u → ∃ a vs, u = .ref a ∧ SqL X.K H a vs ∧ vs.length = ns.getD i 0)
    (h0 : us = [] → Q .non H) (h1 : ∀ u, us[atMin ns]? = some u → Q u H) :
    wpAny (model X.prog X.w) X.A (call (.builtin "min") [.ref l] [(Str.ofString "key", .builtin "len"), (Str.ofString "default", .none)]) (EP X pins σ Q) X.xe s := by
  obtain ⟨its, rv, hl, hz⟩ := I.list hs
  have hsz : its.toArray.size = ns.length := by rw [List.size_toArray, ← rv.length, hn]
  have item : ∀ (i : Nat) (v : Value), its.toArray[i]? = some v → ∃ a, v = .ref a ∧ ∃ w : Array Value, s.heap.IsList a w ∧ w.size = ns.getD i 0 ∧ w.size ≤ sizeLine := fun i v e => by
    rw [List.getElem?_toArray] at e
    obtain ⟨u, eu, r⟩ := paired_get rv i v e
    obtain ⟨a, vs, rfl, sq, hlen⟩ := hi i u eu
    obtain rfl : v = Value.ref a := r
    obtain ⟨its2, rv2, hl2, hz2⟩ := I.list sq
    exact ⟨a, rfl, its2.toArray, hl2.isList, by rw [List.size_toArray, ← rv2.length, hlen], by rw [List.size_toArray, ← rv2.length]; exact hz2⟩
  refine call_min_walkKBD (PySem.W.iter_listW (A := X.A.in1) (I.ok.hd hc) hl.isList fun s₂ e W st hfp hw hk => ?_)
  refine ⟨_, _, _, _, _, _, _, Grown s, fun i k _ => ∃ t, k = Value.int (ns.getD i 0 : Int) t, fun i j => decide ((ns.getD i 0 : Int) < (ns.getD j 0 : Int)), rfl, W, st, hfp, ⟨fun s1 s2 g m => g.moved m fun b hb => ?_, fun i k s1 s2 hv _ => hv, fun i v s1 o Q' E' hin hP hJ hSt hS hQ => ?_, fun i j ki kj s1 Q' E' hJ hv hv' hq => ?_⟩, ⟨⟨s₂.heap, s₂.toks, by subst e; rfl⟩, hk⟩, fun hz0 s' hJ => ?_, fun hp v s' hP hJ => ?_⟩
  · rcases List.mem_cons.mp hb with rfl | hb
    · subst e
      show s.heap.objs.size ≤ (s.heap.push _).objs.size
      rw [Heap.size_push]
      exact Nat.le_succ _
    · rw [List.mem_singleton.mp hb]; exact Nat.le_refl _
  · obtain ⟨a, rfl, w, hw2, hlen, hbig⟩ := item i v hP
    have hw3 : s1.heap.IsList a w := by
      obtain ⟨o1, e1, r1⟩ := hw2
      exact ⟨o1, hJ.2 _ _ e1, r1⟩
    refine PySem.Calls.call_len_list hw3 (by
      have : sizeLine ≤ 2 ^ 40 := by decide
      omega) ?_
    refine hQ _ _ ⟨?_, hJ.2⟩ hSt hS ⟨_, by rw [hlen]⟩ fun j k' h => h
    obtain ⟨⟨h', tk, rfl⟩, _⟩ := hJ
    exact ⟨h', _, rfl⟩
  · obtain ⟨t, rfl⟩ := hv
    obtain ⟨t', rfl⟩ := hv'
    exact lt_int hq
  · obtain ⟨⟨h', tk, rfl⟩, k⟩ := hJ
    exact ⟨.non, H, I.kept (t' := tk) k, rfl, h0 (List.eq_nil_of_length_eq_zero (by omega))⟩
  · obtain ⟨⟨h', tk, rfl⟩, k⟩ := hJ
    rw [hsz] at hP
    have hP : its.toArray[atMin ns]? = some v := hP
    rw [List.getElem?_toArray] at hP
    obtain ⟨u, eu, r⟩ := paired_get rv _ v hP
    exact ⟨u, H, I.kept (t' := tk) k, r, h1 u eu⟩
def tMinLen (K : PySem.W.Frag) (t : TA) : TE := fun σ H Q => t σ H fun vs H1 => rMinLen K vs H1 Q
theorem pe_minLen {K : PySem.W.Frag} {a ed : Expr} {t : TA} {p p2 kp kp2 pos : Pos} (hK : X.K = K) (hc : X.calm = true) (hg : Gl X "min") (hm : X.mg "min" = none) (hg2 : Gl X "len") (hm2 : X.mg "len" = none) (ha : PA X [a] t) (hd : PE X ed (tC .non))
    (he : backTo pos (starEach [a] X.env) = (false, eval a X.env) :: backTo pos (starEach [] X.env) := by rfl) (hpl : (backTo pos (starEach [a] X.env)).any (·.1) = false := by rfl) :
    PE X (.Call (.Name "min" p) [a] [⟨some "key", .Name "len" p2, kp⟩, ⟨some "default", ed, kp2⟩] pos) (tMinLen K t) := by
  subst hK
  refine ⟨fun pins s σ H Q I h => ?_⟩
  refine wpAny_Call_Name_kw (ld_blt I hg hm (u := .builtin "min") (by decide +kernel) ?_)
  refine PyProof.Rows.callWith_kw (thn (ha.run pos pins s σ H _ I h) fun us s1 ⟨vs, H1, I1, r1, q1⟩ => ?_) he hpl rfl rfl
  obtain ⟨l, ws, ns, rfl, a1, a2, a3, a4, a5⟩ := q1
  refine PyProof.Rows.kwAll_cons (ld_blt I1 hg2 hm2 (u := .builtin "len") (by decide +kernel) ?_)
  refine PyProof.Rows.kwAll_cons (thn (hd.run pins s1 σ H1 (fun v H2 => v = .non ∧ H2 = H1) I1 ⟨rfl, rfl⟩) fun u s2 ⟨v, H2, I2, rv, e1, e2⟩ => PyProof.Rows.kwAll_nil ?_)
  subst e1 e2
  obtain rfl := Vals.ref1 r1
  obtain rfl : u = Value.none := rv
  exact call_minLen hc I2 a1 a2 a3 a4 a5
end
section
variable {K : PySem.W.Frag} {rs R : Grp} {H Ho : Hp} {σ : L2.St} {Q : VK} {v : V} {α : Type} [Py α] {t : TA}
theorem y_mln (k : t σ H fun vs H1 => rMinLen K vs H1 Q) : tMinLen K t σ H Q := k
theorem y_minLen {xs : List (List α)} (d : LV K rs Ho v xs) (z : Zs rs H Ho) (k : ∀ u, Z.D K Ho u (mnLen xs) → Q u H) : rMinLen K [v] H Q := by
  obtain ⟨l, us, rfl, dl, sq⟩ := LV.rd d z
  have hlen : us.length = (xs.map (·.length)).length := by rw [dl.len, List.length_map]
  refine ⟨l, us, xs.map (·.length), rfl, sq, hlen, fun i u hu => ?_, fun e => ?_, fun u hu => ?_⟩
  · have hi := (List.getElem?_eq_some_iff.mp hu).1
    have hi : i < xs.length := by rw [← dl.len]; exact hi
    have hx := List.getElem?_eq_getElem hi
    obtain ⟨w, ew, dw⟩ := dl.get hx
    rw [hu] at ew
    cases ew
    have dw : Dq K Ho u (.list (xs[i].map Py.toPy)) := dw
    cases dw with
    | lst hs hd =>
      refine ⟨_, _, rfl, z.le.seq hs, ?_⟩
      rw [dpAll_len hd, List.length_map, List.getD_eq_getElem?_getD, List.getElem?_map, hx]
      rfl
  · have hx : xs = [] := List.length_eq_zero_iff.mp (by rw [← dl.len, e]; rfl)
    refine k _ ?_
    rw [hx]
    exact Dq.non
  · have hx : ∃ x, xs[atMin (xs.map (·.length))]? = some x := by
      have hi := (List.getElem?_eq_some_iff.mp hu).1
      exact ⟨_, List.getElem?_eq_getElem (show _ < xs.length by rw [← dl.len]; exact hi)⟩
    obtain ⟨x, ex⟩ := hx
    obtain ⟨w, ew, dw⟩ := dl.get ex
    rw [hu] at ew
    cases ew
    refine k _ ?_
    unfold mnLen
    rw [ex]
    exact dw
end
/-! displays of dicts with one key -/
section
variable {X : Cx} {pins : List (Addr × Obj)} {σ : L2.St} {s : Shared} {H Ho : Hp} {Q : VK} {tk tv : TE} {K : PySem.W.Frag} {R : Grp} {α β : Type} [Py α] {v w : V}
def Dsp1T (Q : VK) (p : Addr) (x y : V) (H : Hp) : Prop := ∃ (b : Addr) (k : List L2.Key), x = .ref b ∧ H b = some (.tup (k.map kV)) ∧ H p = some (.dT []) ∧ Q (.ref p) (upd H p (.dT [(k, y)]))
def tDisp1T (tk tv : TE) : TE := fun σ H Q => ∀ p, H p = none → tk σ (upd H p (.dT [])) fun x H1 => tv σ H1 fun y H2 => Dsp1T Q p x y H2
theorem pe_disp1T {pos : Pos} {ke ve : Expr} (hu : X.A.units + 1 < cLine) (hk : PE X ke tk) (hv : PE X ve tv) : PE X (.Dict [some ke] [ve] pos) (tDisp1T tk tv) := by
  refine ⟨fun pins s σ H Q I q => ?_⟩
  have hn := I.hok.fresh (Nat.le_refl s.heap.objs.size)
  have I1 := I.laid (a := s.heap.objs.size) (o := .dT []) (h' := s.heap.push { cls := .type "dict", data := .dict #[] }) (t' := s.toks) (fun _ _ q => Heap.get?_push_of_some _ q) (Nat.le_refl _) (dt_empty s.heap I.big)
  rw [arm_eval_Dict, zip_pairTrees [some ke] [ve] X.env pos rfl rfl, dictDisplay_pairs _ (by simp [pairTrees]) (by show 1 < 17; decide)]
  refine wpAny_bind (wpAny_standAt (wpAny_bind (wpAny_subDictH (knd := tupleKind (mixKind X.prog X.w)) (Q := fun d s' => wpAny (model X.prog X.w) X.A (pure (Value.ref d)) (EP X pins σ Q) X.xe s') (show X.A.units < cLine by omega) (by show 1 ≤ 15; decide) ?_)))
  refine pairTrees_cons_walk (thn (hk.run pins _ σ _ _ I1 (q _ hn)) fun u s1 ⟨x, H1, I2, rx, q1⟩ => thn (hv.run pins s1 σ H1 _ I2 q1) fun w2 s2 ⟨y, H2, I3, ry, b, k, ex, eb, ep, q2⟩ => pairTrees_nil_walk ?_)
  subst ex
  obtain rfl : u = Value.ref b := rx
  obtain ⟨zz, hd, xs, rel, dd⟩ := dt_of I3.hok ep
  have ex : xs = [] := by cases rel; rfl
  subst ex
  refine ⟨[(k, b, w2)], ⟨rfl, rfl, key_of I3.hok eb, trivial⟩, dd, fun h' tk dd' hs => wpAny_pure ⟨.ref s.heap.objs.size, upd H2 s.heap.objs.size (.dT [(k, y)]), ?_, rfl, q2⟩⟩
  obtain ⟨o, es, ep', hq, g2, g3, g4, g4', g5⟩ := dd'
  refine d_write I3 (by rw [ep]; exact True.intro) hs ⟨o, hq⟩ ⟨by show 1 ≤ sizeLine; decide, hd, _, (rel.put k eb ry).keeps fun c ys ec => ?_, o, es, ep', hq, g2, g3, g4, g5⟩
  rw [upd_ne (ne_of ec ep (fun z => nomatch z))]
  exact ec
theorem k_disp1T (z : Zs R H Ho) (k : ∀ p H', Zs ([(p, HO.dT [])] ++ R) H' Ho → tk σ H' fun x H1 => tv σ H1 fun y H2 => Dsp1T Q p x y H2) : tDisp1T tk tv σ H Q := fun p hp => k p _ (z.root hp)
theorem g_disp1T {p : Addr} {k : P4 Int Int Int Int} {a : α} (z : Zs ([(p, HO.dT [])] ++ R) H Ho) (dk : Z.D K Ho v k) (dv : Z.D K Ho w a) (kk : ∀ g H', Zs (g ++ R) H' Ho → OD K Ho (.ref p) ([(k, a)] : Dc (P4 Int Int Int Int) α) g → Q (.ref p) H') : Dsp1T Q p v w H := by
  cases dk with
  | tup hs ha =>
    cases ha with
    | cons h1 ha => cases ha with
      | cons h2 ha => cases ha with
        | cons h3 ha => cases ha with
          | cons h4 ha =>
            cases ha
            rw [d_int h1, d_int h2, d_int h3, d_int h4] at hs
            exact ⟨_, [.inl k.a, .inl k.b, .inl k.c, .inl k.d], rfl, z.le _ _ hs, z.head, kk _ _ z.put ⟨p, [(_, w)], rfl, ⟨rfl, .cons dv .nil⟩, rfl⟩⟩
def Dsp1K (Q : VK) (p : Addr) (x y : V) (H : Hp) : Prop := H p = some (.dK []) ∧ ∃ kvs : List (L2.Key × V), [(x, y)] = kvs.map (fun kv => (kV kv.1, kv.2)) ∧ kvs.length ≤ 15 ∧ Q (.ref p) (upd H p (.dK (mergeK [] kvs)))
theorem k_disp1K (z : Zs R H Ho) (k : ∀ p H', Zs ([(p, HO.dK [])] ++ R) H' Ho → tk σ H' fun x H1 => tv σ H1 fun y H2 => Dsp1K Q p x y H2) : tDisp [(tk, tv)] σ H Q := fun p hp => k p _ (z.root hp)
theorem g_disp1K {p : Addr} {i : Int} {a : α} (z : Zs ([(p, HO.dK [])] ++ R) H Ho) (dv : Z.D K Ho w a) (kk : ∀ g H', Zs (g ++ R) H' Ho → OD K Ho (.ref p) ([(i, a)] : Dc Int α) g → Q (.ref p) H') : Dsp1K Q p (.int i) w H :=
  ⟨z.head, [(.inl i, w)], rfl, by show 1 ≤ 15; decide, kk _ _ z.put ⟨p, [(.inl i, w)], rfl, ⟨rfl, .cons dv .nil⟩, rfl⟩⟩
theorem pe_disp1K {pos : Pos} {ke ve : Expr} (hk : PE X ke tk) (hv : PE X ve tv) : PE X (.Dict [some ke] [ve] pos) (tDisp [(tk, tv)]) := pe_disp (pps_cons hk hv pps_nil) rfl rfl (by simp) (by show 1 ≤ 15; decide)
end
/-! xs.remove(x) of four ints -/
section
theorem plain4 {x : P4 Int Int Int Int} : PyData.plain (toPy x) = true := rfl
theorem plain4s : ∀ {xs : List (P4 Int Int Int Int)}, PyData.plainAll (xs.map Py.toPy) = true
  | [] => rfl
  | x :: xs => by
    show (PyData.plain (toPy x) && PyData.plainAll (xs.map Py.toPy)) = true
    rw [plain4, plain4s (xs := xs)]; rfl
theorem lay4s : ∀ {xs : List (P4 Int Int Int Int)}, PyData.canLayAll0 (xs.map Py.toPy) = true
  | [] => rfl
  | x :: xs => by
    show (PyData.canLay0 (toPy x) && PyData.canLayAll0 (xs.map Py.toPy)) = true
    rw [lay4s (xs := xs), Bool.and_true]; rfl
theorem depth4s {xs : List (P4 Int Int Int Int)} {x : P4 Int Int Int Int} : min (PyData.depthAll (xs.map Py.toPy)) (toPy x).depth ≤ 10 := Nat.le_trans (Nat.min_le_right _ _) (Nat.le_of_ble_eq_true rfl)
def rem4 (xs : List (P4 Int Int Int Int)) (x : P4 Int Int Int Int) : W (List (P4 Int Int Int Int)) := W.bind (W.opt (xs.findIdx? fun y => eqD y x)) fun j => W.ret (xs.eraseIdx j)
def rRem4 (K : PySem.W.Frag) : V → List V → Hp → VK → Prop := fun v vs H Q => ∃ (l : Addr) (u : V) (ws : List V) (x : P4 Int Int Int Int) (xs : List (P4 Int Int Int Int)) (j : Nat), v = .ref l ∧ vs = [u] ∧ H l = some (.lst ws) ∧ Z.D K H u x ∧ DL K H ws xs ∧ (xs.findIdx? fun y => eqD y x) = some j ∧ Q .non (upd H l (.lst (ws.eraseIdx j)))
variable {X : Cx} {K : PySem.W.Frag} {H Ho : Hp} {R : Grp} {Q : VK} {v w : V} {γ : Type} {Φ : γ → Prop}
theorem mt_rem4 (hu : X.A.units + 65 < cLine) : MtM X "list.remove" (rRem4 X.K) := by
  intro pins s σ H v vs u us Q I rx rv h
  obtain ⟨l, w, ws, x, xs, j, rfl, rfl, hH, dx, dl, hj, q⟩ := h
  cases rx
  obtain ⟨uy, rfl, ru⟩ := rv.one
  obtain ⟨z, its, n, r, hl, e⟩ := I.lstM hH
  obtain ⟨bs, r1⟩ := Dp.reads I _ _ uy (Dq.dp _ _ rfl dx) ru
  obtain ⟨as, r2⟩ := Dp.readsAll I _ _ its (DqAll.dp _ _ lay4s dl) r
  have hL : s.heap.IsList l its.toArray := ⟨_, e, rfl, _, rfl⟩
  have hp : PySem.SeqAt.dataPlace (xs.map Py.toPy) (toPy x) = some j := by
    unfold PySem.SeqAt.dataPlace
    rw [List.findIdx?_map]
    exact hj
  refine PySem.SeqAt.remove_list_data hL r2 r1 plain4s plain4 (by have := depth4s (xs := xs) (x := x); show X.A.units + 1 + _ < _; omega) hp (by rw [List.size_toArray]; omega) ?_
  refine ⟨.non, _, I.lset (its' := its.eraseIdx j) hH e ?_ (r.eraseIdx j) ?_, rfl, q⟩
  · show its.toArray.eraseIdxIfInBounds j = (its.eraseIdx j).toArray
    rw [List.eraseIdxIfInBounds_toArray]
  · have := List.length_eraseIdx_le its j
    have := List.length_eraseIdx_le ws j
    omega
theorem zmt_rem4 (hK : X.K = K) (hu : X.A.units + 65 < cLine) : MtM X "list.remove" (rRem4 K) := hK ▸ mt_rem4 hu
theorem g_rem4 {x : P4 Int Int Int Int} {xs : List (P4 Int Int Int Int)} {g : Grp} {f : List (P4 Int Int Int Int) → W γ} (z : Zs (g ++ R) H Ho) (o : OL K Ho v xs g) (dx : Z.D K Ho w x) (hw : (W.bind (rem4 xs x) f).run Φ) (k : ∀ xs' g' H', Zs (g' ++ R) H' Ho → OL K Ho v xs' g' → (f xs').run Φ → Q .non H') : rRem4 K v [w] H Q := by
  obtain ⟨p, vs, rfl, d, rfl⟩ := o
  obtain ⟨j, hj, hw⟩ := hw
  refine ⟨p, w, vs, x, xs, j, rfl, rfl, z.head, D.mo dx z.le, DL.mo d z.le, hj, k _ _ _ z.put ⟨p, _, rfl, ?_, rfl⟩ hw⟩
  show DqAll _ _ _ ((xs.eraseIdx j).map Py.toPy)
  rw [map_erase]
  exact dpAll_erase d j
end
/-! None, True or False -/
section
variable {K : PySem.W.Frag} {H Ho : Hp} {Q : VK} {v : V}
def rIsOB : R2 := fun x y H Q => ∃ t : Bool, y = .bl t ∧ ((x = .non ∧ Q (.bl false) H) ∨ ∃ a, x = .bl a ∧ Q (.bl (decide (a = t))) H)
def rNotOB : R2 := fun x y H Q => ∃ t : Bool, y = .bl t ∧ ((x = .non ∧ Q (.bl true) H) ∨ ∃ a, x = .bl a ∧ Q (.bl (!decide (a = t))) H)
theorem op_isOB {X : Cx} : OpR X (compareOp .Is) rIsOB := by
  intro pins s σ H x y v u Q I rx ry h
  obtain ⟨t, rfl, ⟨rfl, q⟩ | ⟨a, rfl, q⟩⟩ := h
  · cases (show v = Value.none from rx)
    cases (show u = Value.bool t from ry)
    exact wpAny_is_other rfl (fun z => nomatch z) ⟨.bl false, H, I, rfl, q⟩
  · exact op_isBl pins s σ H _ _ v u Q I rx ry ⟨a, t, rfl, rfl, q⟩
theorem op_notOB {X : Cx} : OpR X (compareOp .IsNot) rNotOB := by
  intro pins s σ H x y v u Q I rx ry h
  obtain ⟨t, rfl, ⟨rfl, q⟩ | ⟨a, rfl, q⟩⟩ := h
  · cases (show v = Value.none from rx)
    cases (show u = Value.bool t from ry)
    exact wpAny_isNot_other rfl (fun z => nomatch z) ⟨.bl true, H, I, rfl, q⟩
  · exact op_notBl pins s σ H _ _ v u Q I rx ry ⟨a, t, rfl, rfl, q⟩
theorem y_isOB {o : Option Bool} {t : Bool} (d : Z.D K Ho v o) (k : Q (.bl (decide (o = some t))) H) : rIsOB v (.bl t) H Q := by
  cases o with
  | none => cases (d : Dq K Ho v .none); exact ⟨t, rfl, .inl ⟨rfl, k⟩⟩
  | some a => cases (d : Dq K Ho v (.bool a)); exact ⟨t, rfl, .inr ⟨a, rfl, by simpa using k⟩⟩
theorem y_notOB {o : Option Bool} {t : Bool} (d : Z.D K Ho v o) (k : Q (.bl (!decide (o = some t))) H) : rNotOB v (.bl t) H Q := by
  cases o with
  | none => cases (d : Dq K Ho v .none); exact ⟨t, rfl, .inl ⟨rfl, k⟩⟩
  | some a => cases (d : Dq K Ho v (.bool a)); exact ⟨t, rfl, .inr ⟨a, rfl, by simpa using k⟩⟩
end
end Z

/-! # a tuple of two pairs of one's own; a loop over it, turn by turn; a borrowed pair -/
namespace Z
open PySem PySem.Spec PyProof.Rows L2
section
variable {K : PySem.W.Frag} {H Ho H' Ho' : Hp} {α β α' β' γ : Type} [Py α] [Py β] [Py α'] [Py β'] {Φ : γ → Prop} {R R' g0 g1 g rs : Grp} {v w u v0 v1 : V} {Q : VK} {σ σ' : L2.St} {x : (List α × List β) × (List α' × List β')} {p : List α × List β} {q : List α' × List β'}
theorem TupAt.dd {x : α} {y : β} (t : TupAt Ho v v0 v1) (d0 : Z.D K Ho v0 x) (d1 : Z.D K Ho v1 y) : Z.D K Ho v (x, y) := by
  obtain ⟨p, rfl, hp⟩ := t
  exact .tup hp (.cons d0 (.cons d1 .nil))
def OPP (K : PySem.W.Frag) (Ho : Hp) (v : V) (x : (List α × List β) × (List α' × List β')) (g : Grp) : Prop := ∃ v0 v1 g0 g1, TupAt Ho v v0 v1 ∧ OP K Ho v0 x.1 g0 ∧ OP K Ho v1 x.2 g1 ∧ g = g0 ++ g1
theorem OPP.mo (h : OPP K Ho v x g) (e : Same Ho Ho') : OPP K Ho' v x g := by
  obtain ⟨v0, v1, g0, g1, t, o0, o1, rfl⟩ := h
  exact ⟨v0, v1, g0, g1, t.mo e, o0.mo e, o1.mo e, rfl⟩
theorem pp_open {P : Prop} (o : OPP K Ho v x g) (z : Zs (g ++ R) H Ho) (k : ∀ v0 v1 g0 g1, TupAt Ho v v0 v1 → OP K Ho v0 x.1 g0 → OP K Ho v1 x.2 g1 → Zs (g0 ++ (g1 ++ R)) H Ho → P) : P := by
  obtain ⟨v0, v1, g0, g1, t, o0, o1, rfl⟩ := o
  rw [List.append_assoc] at z
  exact k v0 v1 g0 g1 t o0 o1 z
theorem pp_close {P : Prop} (t : TupAt Ho v v0 v1) (o0 : OP K Ho v0 p g0) (o1 : OP K Ho v1 q g1) (z : Zs (g0 ++ (g1 ++ R)) H Ho) (k : ∀ g, OPP K Ho v (p, q) g → Zs (g ++ R) H Ho → P) : P :=
  k (g0 ++ g1) ⟨v0, v1, g0, g1, t, o0, o1, rfl⟩ (by rw [List.append_assoc]; exact z)
theorem pp_fr {P : Prop} (o : OPP K Ho v x g) (z : Zs (g ++ R) H Ho) (k : ∀ Ho', Same Ho Ho' → Zs R H Ho' → Z.D K Ho' v x → P) : P := by
  obtain ⟨w0, w1, g0, g1, t, o0, o1, rfl⟩ := o
  rw [List.append_assoc] at z
  refine p_fr o0 z fun Ho1 e1 z1 d0 => ?_
  refine p_fr (o1.mo e1) z1 fun Ho2 e2 z2 d1 => ?_
  exact k Ho2 (e1.trans e2) z2 (TupAt.dd ((t.mo e1).mo e2) (D.mo d0 e2) d1)
theorem pp_o {G : V → Prop} {e : (List α × List β) × (List α' × List β')} {f : (List α × List β) × (List α' × List β') → W γ} (hw : (W.bind (W.ret e) f).run Φ) (z : Zs (g ++ R) H Ho) (o : OPP K Ho v e g) (k : ∀ x v g, Zs (g ++ R) H Ho → OPP K Ho v x g → (f x).run Φ → G v) : LetV G v := k e v g z o hw
/-- a pair of lists that another holds -/
def LP (K : PySem.W.Frag) (R : Grp) (Ho : Hp) (v : V) (x : List α × List β) : Prop := ∃ v0 v1, TupAt Ho v v0 v1 ∧ LV K R Ho v0 x.1 ∧ LV K R Ho v1 x.2
theorem LP.of2 {xs : List α} {ys : List β} (t : TupAt Ho v v0 v1) (l0 : LV K R Ho v0 xs) (l1 : LV K R Ho v1 ys) : LP K R Ho v (xs, ys) := ⟨v0, v1, t, l0, l1⟩
/-- an iterator over a tuple of two -/
def Tw (K : PySem.W.Frag) (J : It) (v v0 v1 : V) : Prop := ∀ rs H' Ho', TupAt Ho' v v0 v1 → Zs rs H' Ho' → J.go 0 H' ∧ (∀ x H'', J.yld 0 H' x H'' → H'' = H' ∧ x = v0) ∧ J.go 1 H' ∧ (∀ x H'', J.yld 1 H' x H'' → H'' = H' ∧ x = v1) ∧ J.stop 2 H'
theorem tw_tup {a : Addr} : Tw K (Itt K a) (.ref a) v0 v1 := by
  rintro rs H' Ho' ⟨p, e, hp⟩ z
  cases e
  have s : SqT K H' a [v0, v1] := SqT.of (z.le _ _ hp)
  exact ⟨⟨_, _, s, rfl⟩, fun x H'' y => ⟨y.1, (Option.some.inj (y.2 _ s)).symm⟩, ⟨_, _, s, rfl⟩, fun x H'' y => ⟨y.1, (Option.some.inj (y.2 _ s)).symm⟩, _, s, Nat.le_refl _⟩
theorem k_srcTw {R : It → Hp → Prop} (t : TupAt Ho v v0 v1) (z : Zs rs H Ho) (k : ∀ J, Tw K J v v0 v1 → R J H) : SrcT K R v H := by
  obtain ⟨p, rfl, hp⟩ := t
  exact ⟨p, rfl, ⟨_, SqT.of (z.le _ _ hp)⟩, k _ tw_tup⟩
variable {g' : TG} {u1 tb : TS} {D : Ends} {J : It}
def Nx2 (u : TS) (D : Ends) (J : It) : L2.St → Hp → Prop := fun σ' H' => J.stop 2 H' ∧ u D σ' H'
def Nx1 (g : TG) (tb u : TS) (D : Ends) (J : It) : L2.St → Hp → Prop := fun σ' H' => J.go 1 H' ∧ ∀ x H'', J.yld 1 H' x H'' → g x σ' H'' fun σ2 H2 => tb { D with nx := Nx2 u D J, ct := Nx2 u D J, bk := u D } σ2 H2
theorem y_for2 (T : Tw K J v v0 v1) (t : TupAt Ho v v0 v1) (z : Zs rs H Ho) (k : g' v0 σ H fun σ2 H2 => tb { D with nx := Nx1 g' tb u1 D J, ct := Nx1 g' tb u1 D J, bk := u1 D } σ2 H2) : ForG g' tb u1 D σ J H := by
  refine ⟨fun i m σ' H' => (i = 0 ∧ m = 2 ∧ σ' = σ ∧ H' = H) ∨ (i = 1 ∧ m = 1 ∧ Nx1 g' tb u1 D J σ' H') ∨ (i = 2 ∧ m = 0 ∧ Nx2 u1 D J σ' H'), ⟨2, .inl ⟨rfl, rfl, rfl, rfl⟩⟩, ?_⟩
  rintro i m σ' H' (⟨rfl, rfl, rfl, rfl⟩ | ⟨rfl, rfl, n1⟩ | ⟨rfl, rfl, n2⟩)
  · obtain ⟨a, b, _⟩ := T _ _ _ t z
    refine .inr ⟨a, Nx1 g' tb u1 D J, fun σ' H' n => ⟨1, by decide, .inr (.inl ⟨rfl, rfl, n⟩)⟩, fun x H'' y => ?_⟩
    obtain ⟨rfl, rfl⟩ := b x H'' y
    exact k
  · exact .inr ⟨n1.1, Nx2 u1 D J, fun σ' H' n => ⟨0, by decide, .inr (.inr ⟨rfl, rfl, n⟩)⟩, n1.2⟩
  · exact .inl n2
theorem y_nx1 {E : Ends} (hE : E.nx = Nx1 g' tb u1 D J) (T : Tw K J v v0 v1) (t : TupAt Ho v v0 v1) (z : Zs rs H Ho) (k : g' v1 σ H fun σ2 H2 => tb { D with nx := Nx2 u1 D J, ct := Nx2 u1 D J, bk := u1 D } σ2 H2) : tNext E σ H := by
  show E.nx σ H
  rw [hE]
  obtain ⟨_, _, a, b, _⟩ := T _ _ _ t z
  refine ⟨a, fun x H'' y => ?_⟩
  obtain ⟨rfl, rfl⟩ := b x H'' y
  exact k
theorem y_nx2 {E : Ends} (hE : E.nx = Nx2 u1 D J) (T : Tw K J v v0 v1) (t : TupAt Ho v v0 v1) (z : Zs rs H Ho) (k : u1 D σ H) : tNext E σ H := by
  show E.nx σ H
  rw [hE]
  obtain ⟨_, _, _, _, a⟩ := T _ _ _ t z
  exact ⟨a, k⟩
end
end Z

/-! # a comprehension over the keys of a dict of its own -/
namespace Z
open PySem PySem.Spec PyProof.Rows L2
section
variable {K : PySem.W.Frag} {H Ho H' Ho' : Hp} {α β γ : Type} [Py α] [Py β] {Φ : γ → Prop} {R rs : Grp} {v w u : V} {Q : VK} {σ : L2.St} {tt : TT} {te td t : TE} {g : TG} {vs : List Nat}
/-- a dict while its keys are gone through -/
def OF (K : PySem.W.Frag) (Ho : Hp) (v : V) (m : Dc (Int × Int) α) (g : Grp) : Prop := ∃ p kvs od, v = .ref p ∧ DM K Ho kvs m ∧ g = [(p, HO.frz od (DKey.ho (κ := Int × Int) kvs))]
theorem OF.mo {m : Dc (Int × Int) α} {g : Grp} (h : OF K Ho v m g) (e : Same Ho Ho') : OF K Ho' v m g := by
  obtain ⟨p, kvs, od, rfl, d, rfl⟩ := h
  exact ⟨p, kvs, od, rfl, d.mo e, rfl⟩
theorem k_lock {m : Dc (Int × Int) α} {g : Grp} (o : OD K Ho v m g) (z : Zs (g ++ R) H Ho)
    (k : ∀ g' H' Q', Zs (g' ++ R) H' Ho → OF K Ho v m g' → (∀ w R H2 Ho2, Zs (g' ++ R) H2 Ho2 → (∀ H3, Zs (g ++ R) H3 Ho2 → Q w H3) → Q' w H2) → t σ H' Q') : tLockE t σ H Q := by
  obtain ⟨p, kvs, rfl, d, rfl⟩ := o
  refine ⟨p, _, z.head, trivial, fun od => ?_⟩
  refine k [(p, HO.frz od (DKey.ho (κ := Int × Int) kvs))] _ _ z.put ⟨p, kvs, od, rfl, d, rfl⟩ fun w R H2 Ho2 z2 q => ⟨z2.head, q _ z2.put⟩
def SrcK (R : It → Hp → Prop) (x : V) (H : Hp) : Prop := ∃ d o, x = .ref d ∧ ((∃ kvs, H d = some (.frz o (.dK kvs)) ∧ R (Itk d o kvs) H) ∨ ∃ kvs, H d = some (.frz o (.dT kvs)) ∧ R (Itkt d o kvs) H)
theorem k_iKeys {R : It → Hp → Prop} (k : td σ H fun x H1 => SrcK R x H1) : iKeys td σ H R := k
/-- the turns over the keys -/
def KeyT (J : It) (m : Dc (Int × Int) α) (g : Grp) : Prop := ∃ p kvs od, J = Itkt p od kvs ∧ kvs.map (·.1) = m.map (fun p => DKey.key p.1) ∧ g = [(p, HO.frz od (DKey.ho (κ := Int × Int) kvs))]
theorem k_srcK {R : It → Hp → Prop} {m : Dc (Int × Int) α} {g : Grp} (o : OF K Ho v m g) (hs : ∀ r ∈ g, r ∈ rs) (z : Zs rs H Ho) (k : ∀ J, KeyT J m g → R J H) : SrcK R v H := by
  obtain ⟨p, kvs, od, rfl, d, rfl⟩ := o
  exact ⟨p, od, rfl, .inr ⟨kvs, (z.rt _ (hs _ List.mem_cons_self)).1, k _ ⟨p, kvs, od, rfl, d.1, rfl⟩⟩⟩
theorem y_lcK {J : It} {m : Dc (Int × Int) α} {g0 : Grp} {ct : Int × Int → W Bool} {cf : Int × Int → W β} {f : List β → W γ} (z : Zs rs H Ho) (hr : ∀ r ∈ g0, r ∈ rs) (T : KeyT J m g0) (hw : (W.bind (compG (m.map (·.1)) ct cf) f).run Φ)
    (hx : ∀ (r : Addr × HO) a x H' Ho' (N : VK) (N' : Hp → Prop), Same Ho Ho' → Zs (r :: rs) H' Ho' → Z.D K H' x a →
      (W.bind (ct a) fun b => W.ite b (cf a) ⟨fun Ψ => ∀ H'' Ho'', Same Ho' Ho'' → Zs (r :: rs) H'' Ho'' → N' H'', fun _ _ _ q => q⟩).run (fun y => ∀ w H'' Ho'', Same Ho' Ho'' → Zs (r :: rs) H'' Ho'' → Z.D K Ho'' w y → N w H'') →
      g x (wipe σ vs) H' fun σ2 H2 => wipe σ2 vs = wipe σ vs ∧ tt σ2 H2 fun b H3 => if b = true then te σ2 H3 N else N' H3)
    (k : ∀ ys H' Ho', Same Ho Ho' → (f ys).run Φ → ∀ p ws, Zs ((p, .lst ws) :: rs) H' Ho' → DL K Ho' ws ys → Q (.ref p) H') : LcG g tt te vs σ Q J H := by
  intro Dn hD
  obtain ⟨p, kvs, od, rfl, hkv, rfl⟩ := T
  have hmem := hr _ List.mem_cons_self
  obtain ⟨hsz, hw⟩ := hw
  have hlen : kvs.length = m.length := by
    have := congrArg List.length hkv
    simpa using this
  generalize hxs : m.map (·.1) = xs at hsz hw
  have hlx : xs.length = kvs.length := by rw [← hxs, hlen, List.length_map]
  refine ⟨fun i m H => m = xs.length - i ∧ i ≤ xs.length ∧ ∃ (Ho' : Hp) (acc : List β) (acs : List V), Same Ho Ho' ∧ Zs ((Dn, .lst acs) :: rs) H Ho' ∧ DL K Ho' acs acc ∧ acs.length ≤ i ∧ (comp (xs.drop i) acc ct cf).run fun ys => (f ys).run Φ,
    ⟨xs.length, by simp, Nat.zero_le _, Ho, [], [], Same.refl _, z.root hD, .nil, Nat.le_refl _, hw⟩, ?_⟩
  rintro i mm H ⟨rfl, hi, Ho', acc, acs, e', z', da, la, hw⟩
  have hfr : H p = some (.frz od (.dT kvs)) := (z'.rt _ (List.mem_cons_of_mem _ hmem)).1
  by_cases hlt : i < xs.length
  · refine .inr ?_
    have hxi := List.getElem?_eq_getElem hlt
    refine ⟨⟨hfr, by omega⟩, fun H' => ∃ (Ho' : Hp) (acc : List β) (acs : List V), Same Ho Ho' ∧ Zs ((Dn, .lst acs) :: rs) H' Ho' ∧ DL K Ho' acs acc ∧ acs.length ≤ i + 1 ∧ (comp (xs.drop (i + 1)) acc ct cf).run fun ys => (f ys).run Φ, fun H' hN => ⟨xs.length - (i + 1), by omega, rfl, hlt, hN⟩, fun x H' y => ?_⟩
    obtain ⟨rfl, kk, vv, q, hk1, rfl, hq⟩ := y
    have hkey : kk = DKey.key (xs[i]) := by
      have h1 : (kvs.map (·.1))[i]? = some kk := by rw [List.getElem?_map, hk1]; rfl
      have h2 : (m.map (fun p => DKey.key p.1))[i]? = some (DKey.key xs[i]) := by
        have : (m.map (·.1))[i]? = some xs[i] := by rw [hxs]; exact hxi
        rw [List.getElem?_map] at this ⊢
        cases em : m[i]? with
        | none => rw [em] at this; cases this
        | some p => rw [em] at this; rw [← Option.some.inj this]; rfl
      rw [hkv, h2] at h1
      exact (Option.some.inj h1).symm
    have dx : Z.D K H' (.ref q) xs[i] := by
      rw [hkey] at hq
      exact .tup hq (.cons (.int _) (.cons (.int _) .nil))
    rw [drop_cons hxi] at hw
    refine hx (Dn, .lst acs) _ _ H' Ho' _ _ e' z' dx ?_
    have hw : (ct xs[i]).run fun b => (W.ite b (W.bind (cf xs[i]) fun y => comp (xs.drop (i + 1)) (acc ++ [y]) ct cf) (comp (xs.drop (i + 1)) acc ct cf)).run fun ys => (f ys).run Φ := hw
    show (ct xs[i]).run _
    refine W.mono _ _ _ (fun b hb => ?_) hw
    refine ⟨fun e => ?_, fun e H'' Ho'' e3 z3 => ?_⟩
    · refine W.mono _ _ _ (fun y hy w H'' Ho'' e3 z3 dw => ?_) (hb.1 e)
      refine ⟨acs, z3.head, by omega, Ho'', acc ++ [y], acs ++ [w], e'.trans e3, z3.put, (DL.mo da e3).push dw, ?_, hy⟩
      rw [List.length_append]
      exact Nat.succ_le_succ la
    · exact ⟨Ho'', acc, acs, e'.trans e3, z3, DL.mo da e3, Nat.le_succ_of_le la, hb.2 e⟩
  · have e : i = xs.length := by omega
    subst e
    refine .inl ⟨⟨hfr, by omega⟩, ?_⟩
    rw [List.drop_length] at hw
    exact k acc H Ho' e' hw Dn acs z' da
theorem g_dgetF {m : Dc (Int × Int) α} {k : Int × Int} {f : α → W γ} {g : Grp} (o : OF K Ho v m g) (hs : ∀ r ∈ g, r ∈ R) (z : Zs R H Ho) (dk : Z.D K H w k) (hw : (W.bind (W.opt (valM m k)) f).run Φ) (kk : ∀ t u, Z.D K Ho u t → (f t).run Φ → Q u H) : GGet Q v w H := by
  obtain ⟨p, kvs, od, rfl, d, rfl⟩ := o
  obtain ⟨a, ea, hw⟩ := hw
  obtain ⟨x, ex, dx⟩ := (d.val k).2 a ea
  have e := (z.rt _ (hs _ List.mem_cons_self)).1
  refine ⟨p, x, rfl, ?_, kk a x dx hw⟩
  cases dk with
  | tup hs ha =>
    cases ha with
    | cons h1 h2 =>
      cases h2 with
      | cons h3 h4 =>
        cases h4
        rw [d_int h1, d_int h3] at hs
        refine Or.inr ⟨kvs, [.inl k.1, .inl k.2], _, .inr ⟨od, e⟩, rfl, hs, ?_⟩
        rw [← ex]; rfl
end
end Z

/-! # the items of a dict whose keys are tuples, gone through -/
namespace L2
open PySem PySem.W PySem.Calls PyProof.Rows PyProof.V PySem.Spec
section
variable {X : Cx} {pins : List (Addr × Obj)} {σ : St} {H : Hp} {s : Shared} {d : Addr} {o : Obj} {P : Program} {w : World} {K : Frag} {es : Array DictEntry} {ep : Nat}
theorem Inv.frzT2 {kvs : List (List Key × V)} (I : Inv X pins σ H s) (h : H d = some (.frz o (.dT kvs))) :
    (d == sysModules) = false ∧ s.heap.get? d = some o ∧ o.ExactDict ∧ ∃ (es : Array DictEntry) (ep : Nat), o.data = .dict es ep ∧ es.size = kvs.length ∧
      ∀ (i : Nat) (k : List Key) (v : V), kvs[i]? = some (k, v) → ∃ (en : DictEntry) (q : Addr), es[i]? = some en ∧ en.key = .ref q ∧ H q = some (.tup (k.map kV)) ∧ RelV v en.val := by
  obtain ⟨hd, z, hs, xs, pr, o', es, ep, ho, hx, hdt, he, _⟩ := I.hok d _ h
  rw [hd] at ho
  cases ho
  refine ⟨hs, hd, hx, es, ep, hdt, ?_, fun i k v e => ?_⟩
  · have l1 : es.size = xs.length := size_of_entries he
    have l2 : kvs.length = xs.length := Paired.length pr
    omega
  · obtain ⟨b, hb, e1, e2, e3⟩ := paired_get pr e
    have q := entry_at he i
    rw [hb] at q
    exact ⟨_, b.2.1, q, rfl, e2, e3⟩
/-- the pairs of key and value, the key its own tuple, each in a new pair -/
def Itit (d : Addr) (o : Obj) (kvs : List (List Key × V)) : It :=
  ⟨fun i H => H d = some (.frz o (.dT kvs)) ∧ i < kvs.length, fun i H x H' => ∃ T k v q, kvs[i]? = some (k, v) ∧ x = .ref T ∧ H T = none ∧ H q = some (.tup (k.map kV)) ∧ H' = upd H T (.tup [.ref q, v]), fun i H => H d = some (.frz o (.dT kvs)) ∧ kvs.length ≤ i⟩
theorem turn_itemsT {kvs : List (List Key × V)} {elts : List Expr} {kk : Nat} {tpos : Pos} (it : Addr) (hod : o.data = .dict es ep) :
    Turn P w K (.Tuple elts kk tpos) (Itit d o kvs) [it] it (fun i h => ∃ ok ov, IsItemIter h it d i kvs.length ep ok ov) where
  mem := by simp
  obj := fun i h st b hb => by
    have e : b = it := by simpa using hb
    subst e
    obtain ⟨ok, ov, e⟩ := st
    exact ⟨_, e, fun v z => nomatch z⟩
  keep := fun i h h' st k => let ⟨ok, ov, e⟩ := st; ⟨ok, ov, k it (by simp) _ e⟩
  item := by
    intro X hP hw hK hc i pins s σ H E I hf st hg
    subst hP hw hK
    obtain ⟨hd, hi⟩ := hg
    obtain ⟨hs, hgd, hx, es', ep', hdt, hsz, ent⟩ := I.frzT2 hd
    obtain ⟨rfl, rfl⟩ := dict_ep hod hdt
    obtain ⟨⟨k, v⟩, hkv⟩ : ∃ p, kvs[i]? = some p := ⟨kvs[i], List.getElem?_eq_getElem hi⟩
    obtain ⟨en, q, hen, hkey, hq, rv⟩ := ent i k v hkv
    obtain ⟨ok, ov, he⟩ := st
    rw [← hsz] at he
    have hlt : it < s.heap.objs.size := Heap.lt_size he
    have hies : i < es'.size := by omega
    have een : es'[i] = en := by
      rw [Array.getElem?_eq_getElem hies] at hen
      exact Option.some.inj hen
    refine DT.nextI he ⟨o, hgd, hx, hdt⟩ hies fun h' ho hT hz hk => ?_
    refine ⟨_, rfl, wpAny_letOwnedTupleGo_items (s := { s with heap := h' }) ho fun h'' he' sb => ?_⟩
    have hT2 : h''.get? s.heap.objs.size = some { cls := .type "tuple", data := .seq #[es'[i].key, es'[i].val] } := (sb.2 _ (Nat.ne_of_gt hlt)).trans hT
    rw [een, hkey] at hT2
    have new : ObjOk X.prog X.w (upd H s.heap.objs.size (.tup [.ref q, v])) h'' s.heap.objs.size (.tup [.ref q, v]) :=
      ⟨by show 2 ≤ sizeLine; decide, [.ref q, en.val], .cons rfl (.cons rv .nil), ⟨_, hT2, rfl, _, rfl⟩⟩
    have I1 : Inv X pins σ (upd H s.heap.objs.size (.tup [.ref q, v])) { s with heap := h'' } :=
      I.turnedNew (t' := s.toks) (ch := [it]) (fun b ob hb e => (sb.2 b (by simpa using hb)).trans (hk b ob (by simpa using hb) e)) hf (Nat.le_refl _) new
    refine ⟨.ref s.heap.objs.size, _, I1, rfl, ⟨_, k, v, q, hkv, rfl, I.hok.fresh (Nat.le_refl _), hq, rfl⟩, ⟨_, _, by rw [← hsz]; exact he'⟩, fun b hb => ?_⟩
    have e : b = it := by simpa using hb
    rw [e, upd_ne (Nat.ne_of_lt hlt)]
    exact (hf it (by simp)).1
  done := by
    intro X hP hw hK hc i pins s σ H E I hf st hg
    subst hP hw hK
    obtain ⟨hd, hi⟩ := hg
    obtain ⟨f0, f1, f2, f3, f4, f5⟩ := hf it (by simp)
    obtain ⟨hs, hgd, hx, es', ep', hdt, hsz, ent⟩ := I.frzT2 hd
    obtain ⟨rfl, rfl⟩ := dict_ep hod hdt
    obtain ⟨ok, ov, he⟩ := st
    rw [← hsz] at he
    exact DT.endI (I.ok.hd hc) he ⟨o, hgd, hx, hdt⟩ (by omega) fun h' eb => ⟨rfl, I.turned (t' := s.toks) (fun b ob hb e => eb b ob hb e) f0 f1 f3 f4 f5⟩
  self := fun A i s Q E st h => let ⟨_, _, e⟩ := st; PySem.W.kcp_self e h
def iItemsT (td : TE) : TI := fun σ H R => td σ H fun x H1 => ∃ d o kvs, x = .ref d ∧ H1 d = some (.frz o (.dT kvs)) ∧ R (Itit d o kvs) H1
theorem pi_itemsT {e : Expr} {td : TE} {apos cpos : Pos} {elts : List Expr} {kk : Nat} {tpos : Pos} (he : PE X e td) (hbase : attributeBase e "items" X.env (eval e X.env) = eval e X.env := by rfl) (hline : (apos.endLine == cpos.line) = true := by rfl) :
    PI X (.Tuple elts kk tpos) (.Call (.Attribute e "items" apos) [] [] cpos) (iItemsT td) := by
  refine ⟨fun pins s σ H R I h => ?_⟩
  refine wpAny_Call_method (T := "dict") (id := "dict.items") hbase rfl hline F.plainAttrs_dict F.slot_dict_items F.type_dict_items (thn (he.run pins s σ H _ I h) fun u s1 ⟨x, H1, I1, rx, d, o, kvs, ex, hd, q⟩ => ?_)
  subst ex
  obtain rfl : u = Value.ref d := rx
  obtain ⟨hs, hgd, hx, es, ep, hdt, hsz, ent⟩ := I1.frzT2 hd
  have raw : DT.Raw s1.heap d es ep := ⟨o, hgd, hx, hdt⟩
  refine ⟨raw.typeIs, ?_, ?_⟩
  · intro a e
    cases e
    exact ⟨o, hgd, hx.2.1⟩
  have I2 : Inv X pins σ H1 { s1 with heap := s1.heap.push { cls := .type "dict_items", data := .fields #[.ref d] } } := I1.kept (t' := s1.toks) fun b ob q => Heap.get?_push_of_some _ q
  have fin : wpAny (model X.prog X.w) X.A (pyIter (.ref s1.heap.objs.size)) (PIE X pins σ (.Tuple elts kk tpos) R) X.xe { s1 with heap := s1.heap.push { cls := .type "dict_items", data := .fields #[.ref d] } } := by
    refine DT.iterI (d := d) ⟨_, Heap.get?_push_size _ rfl, rfl, rfl⟩ (raw.push _) (pi_one (tk := s1.toks) I2 _ (turn_itemsT _ hdt) ⟨.none, .none, ?_⟩ q)
    rw [← hsz]
    exact Heap.get?_push_size _ rfl
  show wpAny _ _ (callWith cpos (.builtin "dict.items") [.ref d] [] []) _ X.xe s1
  exact method_meetsIn F.slot_dict_items F.entry_dict_items rfl (PySem.evalArgs_none ⟨rfl, raw.typeIs, F.args_dict_items_1 _, _, DT.meetsItems (es := es) (ep := ep) hs, raw, fin⟩)
end
end L2

/-! # dicts whose keys are tuples of ints of any length; loops over their items; tuple(list) -/
namespace Z
open PySem PySem.Spec PyProof.Rows L2
section
variable {K : PySem.W.Frag} {H Ho H' Ho' : Hp} {R rs g g' : Grp} {v w u : V} {Q : VK} {σ : L2.St} {α γ : Type} [Py α] {Φ : γ → Prop}
theorem tp_at {x : Tp Int} (d : Z.D K Ho w x) : ∃ p, w = .ref p ∧ Ho p = some (.tup (x.l.map V.int)) := by
  have d : Dq K Ho w (.tuple (x.l.map Py.toPy)) := d
  cases d with
  | tup hs ha =>
    have e := dl_ints (xs := x.l) ha
    rw [e] at hs
    exact ⟨_, rfl, hs⟩
theorem at_tp {x : Tp Int} {p : Addr} (h : Ho p = some (.tup (x.l.map V.int))) : Z.D K Ho (.ref p) x := by
  show Dq K Ho (.ref p) (.tuple (x.l.map Py.toPy))
  exact .tup h ints_dl
theorem keys_int (xs : List Int) : (xs.map (Sum.inl : Int → L2.Key)).map kV = xs.map V.int := by rw [List.map_map]; rfl
instance : DKey (Tp Int) where
  kt := List L2.Key
  dec := inferInstance
  key p := p.l.map Sum.inl
  inj h := by
    rename_i a b
    obtain ⟨a⟩ := a
    obtain ⟨b⟩ := b
    have h : a.map (Sum.inl : Int → L2.Key) = b.map Sum.inl := h
    congr 1
    exact (List.map_inj_right fun x y e => by cases e; rfl).mp h
  ho := .dT
  get e s d := by
    obtain ⟨p, rfl, hp⟩ := tp_at d
    rw [← keys_int] at hp
    exact DGet.t e (s _ _ hp)
  put e s d h := by
    obtain ⟨p, rfl, hp⟩ := tp_at d
    rw [← keys_int] at hp
    exact DPut.t e (s _ _ hp) h
  isd e := .inr ⟨_, .inl e⟩
theorem g_dnewTp (z : Zs R H Ho) (k : ∀ H' v g, Zs (g ++ R) H' Ho → OD K Ho v ([] : Dc (Tp Int) α) g → Q v H') : tDNewT σ H Q := fun p hp => k _ _ _ (z.root hp) ⟨p, [], rfl, ⟨rfl, .nil⟩, rfl⟩
theorem g_disp1P {p : Addr} {k : Tp Int} {a : α} (z : Zs ([(p, HO.dT [])] ++ R) H Ho) (dk : Z.D K Ho v k) (dv : Z.D K Ho w a) (kk : ∀ g H', Zs (g ++ R) H' Ho → OD K Ho (.ref p) ([(k, a)] : Dc (Tp Int) α) g → Q (.ref p) H') : Dsp1T Q p v w H := by
  obtain ⟨q, rfl, hq⟩ := tp_at dk
  rw [← keys_int] at hq
  exact ⟨q, k.l.map Sum.inl, rfl, z.le _ _ hq, z.head, kk _ _ z.put ⟨p, [(_, w)], rfl, ⟨rfl, .cons dv .nil⟩, rfl⟩⟩
/-- a dict while its items are gone through -/
def OG (K : PySem.W.Frag) (Ho : Hp) (v : V) (m : Dc (Tp Int) α) (g g' : Grp) : Prop := ∃ p kvs od, v = .ref p ∧ DM K Ho kvs m ∧ g = [(p, DKey.ho (κ := Tp Int) kvs)] ∧ g' = [(p, HO.frz od (DKey.ho (κ := Tp Int) kvs))]
theorem OG.mo {m : Dc (Tp Int) α} (h : OG K Ho v m g g') (e : Same Ho Ho') : OG K Ho' v m g g' := by
  obtain ⟨p, kvs, od, rfl, d, e1, e2⟩ := h
  exact ⟨p, kvs, od, rfl, d.mo e, e1, e2⟩
theorem OG.od {m : Dc (Tp Int) α} (h : OG K Ho v m g g') : OD K Ho v m g := by
  obtain ⟨p, kvs, od, rfl, d, e1, e2⟩ := h
  exact ⟨p, kvs, rfl, d, e1⟩
theorem k_lockS {t u : TS} {D : Ends} {m : Dc (Tp Int) α} (o : OD K Ho v m g) (z : Zs (g ++ R) H Ho)
    (k : ∀ g' H' u1 D', Zs (g' ++ R) H' Ho → OG K Ho v m g g' → (∀ σ2 R H2 Ho2, Zs (g' ++ R) H2 Ho2 → (∀ H3, Zs (g ++ R) H3 Ho2 → u D σ2 H3) → u1 D' σ2 H2) → tSeq t u1 D' σ H') : tSeq (tLock t) u D σ H := by
  obtain ⟨p, kvs, rfl, d, rfl⟩ := o
  refine ⟨p, _, z.head, trivial, fun od => ?_⟩
  let F : HO := HO.frz od (DKey.ho (κ := Tp Int) kvs)
  let U : HO := DKey.ho (κ := Tp Int) kvs
  exact k [(p, F)] _ (fun D σ H => D.nx σ H) ⟨fun σ' H' => H' p = some F ∧ u D σ' (upd H' p U), fun v H' => H' p = some F ∧ D.rt v (upd H' p U), fun σ' H' => H' p = some F ∧ D.bk σ' (upd H' p U), fun σ' H' => H' p = some F ∧ D.ct σ' (upd H' p U)⟩ z.put ⟨p, kvs, od, rfl, d, rfl, rfl⟩ fun σ2 R H2 Ho2 z2 q => ⟨z2.head, q _ (z2.put (hn := DKey.nt _))⟩
def SrcIt (R : It → Hp → Prop) (x : V) (H : Hp) : Prop := ∃ d o kvs, x = .ref d ∧ H d = some (.frz o (.dT kvs)) ∧ R (Itit d o kvs) H
theorem k_iItems {td : TE} {R : It → Hp → Prop} (k : td σ H fun x H1 => SrcIt R x H1) : iItemsT td σ H R := k
theorem k_srcIt {R : It → Hp → Prop} {m : Dc (Tp Int) α} (o : OG K Ho v m g g') (hs : ∀ r ∈ g', r ∈ rs) (z : Zs rs H Ho) (k : ∀ J, Trn K g' J (m : List (Tp Int × α)) Ho → R J H) : SrcIt R v H := by
  obtain ⟨p, kvs, od, rfl, d, rfl, rfl⟩ := o
  refine ⟨p, od, kvs, rfl, (z.rt _ (hs _ List.mem_cons_self)).1, k _ ?_⟩
  intro i rs' H' Ho' e z' sub
  have hfr : H' p = some (.frz od (.dT kvs)) := (z'.rt _ (sub _ List.mem_cons_self)).1
  have hlen := d.len
  refine ⟨fun a ha => ?_, fun hl => ⟨hfr, by omega⟩⟩
  have hi : i < m.length := (List.getElem?_eq_some_iff.mp ha).1
  refine ⟨⟨hfr, by omega⟩, fun x H'' y => ?_⟩
  obtain ⟨T, kk, vv, q, hk, rfl, hT, hq, rfl⟩ := y
  have hkey : kk = (DKey.key a.1 : List L2.Key) := by
    have h1 : (kvs.map (·.1))[i]? = some kk := by rw [List.getElem?_map, hk]; rfl
    rw [d.1, List.getElem?_map, ha] at h1
    exact (Option.some.inj h1).symm
  have hq' : H' q = some (.tup (a.1.l.map V.int)) := by
    rw [hq, hkey]
    exact congrArg (fun l => some (HO.tup l)) (keys_int a.1.l)
  have dv : Z.D K Ho vv a.2 := by
    obtain ⟨y, ey, dy⟩ := d.2.get (show (m.map (·.2))[i]? = some a.2 by rw [List.getElem?_map, ha]; rfl)
    rw [List.getElem?_map, hk] at ey
    cases ey
    exact dy
  have nq : q ≠ T := fun e => by subst e; rw [hT] at hq; cases hq
  have hTo : Ho' T = none := z'.free hT
  -- q stands for good
  have s1 : Same Ho' (upd Ho' q (.tup (a.1.l.map V.int))) := fun b o' eb => by
    by_cases c : b = q
    · subst c
      have := z'.le _ _ eb
      rw [hq'] at this
      cases this
      exact upd_same
    · rw [upd_ne c]; exact eb
  have s2 : Same (upd Ho' q (.tup (a.1.l.map V.int))) (upd (upd Ho' q (.tup (a.1.l.map V.int))) T (.tup [.ref q, vv])) := Same.new (by rw [upd_ne nq.symm]; exact hTo)
  refine ⟨upd (upd Ho' q (.tup (a.1.l.map V.int))) T (.tup [.ref q, vv]), s1.trans s2, fun rs2 z2 => ⟨fun b o' eb => ?_, fun r hr => ?_, z2.nd, z2.nt⟩, ?_⟩
  · by_cases c : b = T
    · subst c
      rw [upd_same] at eb ⊢
      exact eb
    · rw [upd_ne c] at eb ⊢
      by_cases c2 : b = q
      · subst c2
        rw [upd_same] at eb
        rw [← eb]
        exact hq'
      · rw [upd_ne c2] at eb
        exact z2.le _ _ eb
  · obtain ⟨h1, h2⟩ := z2.rt r hr
    have n1 : r.1 ≠ T := fun e => by rw [e, hT] at h1; cases h1
    have n2 : r.1 ≠ q := fun e => by
      rw [e, hq'] at h1
      have := z2.nt r hr
      rw [← Option.some.inj h1] at this
      exact this
    rw [upd_ne n1, upd_ne n1, upd_ne n2]
    exact ⟨h1, h2⟩
  · obtain ⟨a1, a2⟩ := a
    have hq2 : upd (upd Ho' q (.tup (a1.l.map V.int))) T (.tup [.ref q, vv]) q = some (.tup (a1.l.map V.int)) := by rw [upd_ne nq]; exact upd_same
    exact .tup upd_same (.cons (at_tp hq2) (.cons (D.mo dv ((e.trans s1).trans s2)) .nil))
/-- tuple(list) -/
def rTupL (K : PySem.W.Frag) : List V → Hp → VK → Prop := fun xs H Q => ∃ p ys, xs = [.ref p] ∧ ((SqL K H p ys ∧ ∀ l, H l = none → Q (.ref l) (upd H l (.tup ys))) ∨ (SqT K H p ys ∧ Q (.ref p) H))
theorem ztupL {X : Cx} (hK : X.K = K) : CallR X (.type "tuple") (rTupL K) := hK ▸ call_tuple_of
theorem y_tupL {xs : List α} (d : LV K R Ho v xs) (z : Zs R H Ho) (k : ∀ p H' Ho', Same Ho Ho' → Zs R H' Ho' → Z.D K Ho' (.ref p) (⟨xs⟩ : Tp α) → Q (.ref p) H') : rTupL K [v] H Q := by
  obtain ⟨p, vs, rfl, d, s⟩ := LV.rd d z
  refine ⟨p, vs, rfl, .inl ⟨s, fun l hl => k l _ _ (Same.new (z.free hl)) (z.alloc hl) ?_⟩⟩
  exact .tup upd_same (DL.mo d (Same.new (z.free hl)))
theorem zlenDT {X : Cx} : CallR X (.builtin "len") rLenT := call_len_dT
theorem y_lenDT {m : Dc (Tp Int) α} (o : BD K R Ho v m) (z : Zs R H Ho) (k : Q (.int (m.length : Int)) H) : rLenT [v] H Q := by
  obtain ⟨g, ⟨p, kvs, rfl, d, rfl⟩, hg⟩ := o
  have hp : H p = some (.dT kvs) := (z.rt _ (hg _ List.mem_cons_self)).1
  refine ⟨p, kvs, rfl, hp, ?_⟩
  rw [d.len]
  exact k
end
end Z

/-! # None, or a list of one's own -/
namespace Z
open PySem PySem.Spec PyProof.Rows L2
section
variable {K : PySem.W.Frag} {H Ho H' Ho' : Hp} {α β γ : Type} [Py α] [Py β] {Φ : γ → Prop} {R : Grp} {v w v0 v1 : V} {Q : VK} {p : Addr}
def OO (K : PySem.W.Frag) (Ho : Hp) (v : V) (o : Option (List α)) (g : Grp) : Prop := match o with
  | none => v = .non ∧ g = []
  | some xs => OL K Ho v xs g
theorem OO.mo {o : Option (List α)} {g : Grp} (h : OO K Ho v o g) (e : Same Ho Ho') : OO K Ho' v o g := by
  cases o with
  | none => exact h
  | some xs => exact OL.mo (show OL K Ho v xs g from h) e
theorem OO.non : OO K Ho .non (none : Option (List α)) [] := ⟨rfl, rfl⟩
theorem OO.some {xs : List α} {g : Grp} (h : OL K Ho v xs g) : OO K Ho v (some xs) g := h
theorem oo_dec {o : Option (List α)} {g : Grp} (h : OO K Ho v o g) : decide (v = .non) = o.isNone := by
  cases o with
  | none => rw [h.1]; rfl
  | some xs =>
    obtain ⟨q, vs, e, _⟩ := (show OL K Ho v xs g from h)
    rw [e]; rfl
theorem oo_open {o : Option (List α)} {g : Grp} {P : Prop} {f : List α → W γ} (h : OO K Ho v o g) (hw : (W.bind (W.opt o) f).run Φ) (k : ∀ xs, OL K Ho v xs g → (f xs).run Φ → P) : P := by
  obtain ⟨xs, e, hw⟩ := hw
  subst e
  exact k xs h hw
theorem ol_py {xs : List α} {g : Grp} (h : OL K Ho v xs g) : OL K Ho v (xs.map Py.toPy : List PyData) g := by
  obtain ⟨q, vs, e, d, eg⟩ := h
  refine ⟨q, vs, e, ?_, eg⟩
  show DqAll K Ho vs ((xs.map Py.toPy : List PyData).map Py.toPy)
  rw [List.map_map]
  exact d
theorem l_any {G : V → Prop} (k : G v) : LetV G v := k
theorem k_lst2 (z : Zs R H Ho) (k : ∀ p H', Zs ([(p, HO.lst [.non, v])] ++ R) H' Ho → Q (.ref p) H') : LstK Q [.non, v] H := ⟨by show 2 ≤ sizeLine; decide, fun p hp => k p _ (z.root hp)⟩
theorem y_ix2 {i : Int} {A B : W γ} (hm : ∀ r ∈ ([(p, HO.lst [v0, v1])] : Grp), r ∈ R) (z : Zs R H Ho) (hw : (W.guard (i = 0 ∨ i = 1) (W.ite (decide (i = 0)) A B)).run Φ) (k0 : A.run Φ → Q v0 H) (k1 : B.run Φ → Q v1 H) : rIxL K (.ref p) (.int i) H Q := by
  obtain ⟨hg, h0, h1⟩ := hw
  have sq : SqL K H p [v0, v1] := SqL.of (z.rt _ (hm _ List.mem_cons_self)).1
  rcases hg with rfl | rfl
  · exact ⟨p, [v0, v1], 0, v0, rfl, rfl, sq, rfl, k0 (h0 rfl)⟩
  · exact ⟨p, [v0, v1], 1, v1, rfl, rfl, sq, rfl, k1 (h1 rfl)⟩
/-- a name that is set by a loop's turn -/
def LateD (K : PySem.W.Frag) (Ho : Hp) (y : Option V) (o : Option β) : Prop := ∀ a, o = some a → ∃ v, y = some v ∧ Z.D K Ho v a
theorem LateD.mo {y : Option V} {o : Option β} (h : LateD K Ho y o) (e : Same Ho Ho') : LateD K Ho' y o := fun a ea => by
  obtain ⟨v, ev, d⟩ := h a ea
  exact ⟨v, ev, D.mo d e⟩
theorem LateD.none {y : Option V} : LateD K Ho y (none : Option β) := fun a e => by cases e
theorem LateD.some {b : β} (d : Z.D K Ho v b) : LateD K Ho (some v) (some b) := fun a e => by cases e; exact ⟨v, rfl, d⟩
theorem late_open {y : Option V} {o : Option β} {P : Prop} {f : β → W γ} (h : LateD K Ho y o) (hw : (W.bind (W.opt o) f).run Φ) (k : ∀ a v, y = some v → Z.D K Ho v a → (f a).run Φ → P) : P := by
  obtain ⟨a, e, hw⟩ := hw
  obtain ⟨v, ev, d⟩ := h a e
  exact k a v ev d hw
end
end Z

/-! # all is lent up to a scalar answer; own lists of own things -/
namespace Z
open PySem PySem.Spec PyProof.Rows L2
section
variable {K : PySem.W.Frag} {H Ho H' Ho' : Hp} {rs rs' g R : Grp} {v w : V}
/-- all that there is stands for good, up to the answer of a call -/
theorem Zs.all (z : Zs rs H Ho) : Zs [] H H := ⟨Same.refl _, (fun r hr => nomatch hr), List.nodup_nil, (fun r hr => nomatch hr)⟩
theorem Zs.unlend (z : Zs rs H Ho) (e : Same H Ho') (z' : Zs [] H' Ho') : Zs rs H' Ho :=
  ⟨(z.le.trans e).trans z'.le, fun r hr => ⟨z'.le _ _ (e _ _ (z.rt r hr).1), (z.rt r hr).2⟩, z.nd, z.nt⟩
theorem Zs.unlendO (z : Zs rs H Ho) (e : Same H Ho') (z' : Zs (g ++ []) H' Ho') : Zs (g ++ rs) H' Ho := by
  rw [List.append_nil] at z'
  have nw : ∀ r ∈ g, H r.1 = none := fun r hr => by
    cases h : H r.1 with
    | none => rfl
    | some o =>
      have := e _ _ h
      rw [(z'.rt r hr).2] at this
      cases this
  refine ⟨(z.le.trans e).trans z'.le, fun r hr => ?_, ?_, fun r hr => ?_⟩
  · rcases List.mem_append.mp hr with h | h
    · exact ⟨(z'.rt r h).1, z.free (nw r h)⟩
    · exact ⟨z'.le _ _ (e _ _ (z.rt r h).1), (z.rt r h).2⟩
  · rw [List.map_append, List.nodup_append]
    refine ⟨z'.nd, z.nd, fun a ha b hb c => ?_⟩
    subst c
    obtain ⟨r, hr, rfl⟩ := List.mem_map.mp ha
    obtain ⟨r', hr', c⟩ := List.mem_map.mp hb
    have := (z.rt r' hr').1
    rw [c, nw r hr] at this
    cases this
  · rcases List.mem_append.mp hr with h | h
    · exact z'.nt r h
    · exact z.nt r h
theorem Zs.in_ (z : Zs rs H Ho) (m : ∀ r ∈ g, r ∈ rs) : ∀ r ∈ g, H r.1 = some r.2 := fun r h => (z.rt r (m r h)).1
/-- a group of roots stands for good from now on -/
theorem Zs.frG : ∀ {g : Grp} {Ho : Hp}, Zs (g ++ R) H Ho → ∃ Ho', Same Ho Ho' ∧ Zs R H Ho' ∧ ∀ r ∈ g, Ho' r.1 = some r.2
  | [], Ho, z => ⟨Ho, Same.refl _, z, fun r h => nomatch h⟩
  | (p, o) :: g, Ho, z => by
    have z1 : Zs ((p, o) :: (g ++ R)) H Ho := z
    obtain ⟨Ho', e, z2, h⟩ := Zs.frG (g := g) z1.freeze
    refine ⟨Ho', (Same.new z1.headN).trans e, z2, fun r hr => ?_⟩
    rcases List.mem_cons.mp hr with q | q
    · subst q
      exact e _ _ upd_same
    · exact h r q
end
/-! ### own things in general -/
abbrev OwnPred (β : Type) := PySem.W.Frag → Hp → V → β → Grp → Prop
class OwnD {β : Type} [Py β] (P : OwnPred β) : Prop where
  mo : ∀ {K : PySem.W.Frag} {Ho Ho2 : Hp} {v : V} {x : β} {g : Grp}, P K Ho v x g → Same Ho Ho2 → P K Ho2 v x g
  rd : ∀ {K : PySem.W.Frag} {Ho H : Hp} {v : V} {x : β} {g : Grp}, P K Ho v x g → Same Ho H → (∀ r ∈ g, H r.1 = some r.2) → Z.D K H v x
/-- what needs no heap -/
class Pur (α : Type) [Py α] : Prop where
  pu : ∀ {K : PySem.W.Frag} {H H' : Hp} {v : V} {x : α}, Z.D K H v x → Z.D K H' v x
instance : Pur Int := ⟨fun d => by rw [d_int d]; exact .int _⟩
instance : Pur Bool := ⟨fun d => by rw [d_bool d]; exact .bl _⟩
instance : Pur Str := ⟨fun d => by rw [d_str d]; exact .str _⟩
section
variable {K : PySem.W.Frag} {H Ho H' Ho' : Hp} {R : Grp} {v w : V} {α β γ : Type} [Py α] [Py β] {Φ : γ → Prop} {Q : VK}
instance : OwnD (fun K Ho v xs g => OL (α := α) K Ho v xs g) where
  mo := fun o e => OL.mo o e
  rd := fun o e m => by
    obtain ⟨p, vs, rfl, d, rfl⟩ := o
    exact .lst (SqL.of (m _ List.mem_cons_self)) (DL.mo d e)
theorem DL.pu [Pur α] : ∀ {vs : List V} {xs : List α}, DL K H vs xs → DL K H' vs xs
  | [], [], _ => .nil
  | [], _ :: _, h => by cases h
  | _ :: _, [], h => by cases h
  | v :: vs, x :: xs, h => by
    cases h with
    | cons h1 h2 => exact .cons (Pur.pu h1) (DL.pu h2)
theorem OL.pu [Pur α] {xs : List α} {g : Grp} (o : OL K Ho v xs g) : OL K Ho' v xs g := by
  obtain ⟨p, vs, rfl, d, rfl⟩ := o
  exact ⟨p, vs, rfl, d.pu, rfl⟩
theorem ow_fr {x : β} {P : OwnPred β} [OwnD P] {g : Grp} {X : Prop} (o : P K Ho v x g) (z : Zs (g ++ R) H Ho) (k : ∀ Ho', Same Ho Ho' → Zs R H Ho' → Z.D K Ho' v x → X) : X := by
  obtain ⟨Ho', e, z', m⟩ := z.frG
  exact k Ho' e z' (OwnD.rd o e m)
/-! ### own lists of own things -/
inductive RowO {β : Type} (P : V → β → Grp → Prop) : List V → List β → List Grp → Prop
  | nil : RowO P [] [] []
  | cons {v : V} {x : β} {g : Grp} {vs : List V} {xs : List β} {gs : List Grp} (h : P v x g) (t : RowO P vs xs gs) : RowO P (v :: vs) (x :: xs) (g :: gs)
theorem RowO.imp {P P' : V → β → Grp → Prop} (h : ∀ v x g, P v x g → P' v x g) : ∀ {vs : List V} {xs : List β} {gs : List Grp}, RowO P vs xs gs → RowO P' vs xs gs
  | _, _, _, .nil => .nil
  | _, _, _, .cons a t => .cons (h _ _ _ a) (t.imp h)
theorem RowO.len {P : V → β → Grp → Prop} : ∀ {vs : List V} {xs : List β} {gs : List Grp}, RowO P vs xs gs → vs.length = xs.length ∧ gs.length = xs.length
  | _, _, _, .nil => ⟨rfl, rfl⟩
  | _, _, _, .cons a t => ⟨by simp [t.len.1], by simp [t.len.2]⟩
theorem RowO.get {P : V → β → Grp → Prop} : ∀ {vs : List V} {xs : List β} {gs : List Grp} {i : Nat} {x : β}, RowO P vs xs gs → xs[i]? = some x → ∃ v g, vs[i]? = some v ∧ gs[i]? = some g ∧ P v x g
  | _, _, _, i, _, .nil, e => by simp at e
  | _, _, _, 0, _, .cons a t, e => by cases e; exact ⟨_, _, rfl, rfl, a⟩
  | _, _, _, i + 1, _, .cons a t, e => t.get (i := i) (by simpa using e)
theorem RowO.set {P : V → β → Grp → Prop} : ∀ {vs : List V} {xs : List β} {gs : List Grp} {i : Nat} {v : V} {x : β} {g : Grp}, RowO P vs xs gs → vs[i]? = some v → P v x g → RowO P vs (xs.set i x) (gs.set i g)
  | _, _, _, i, _, _, _, .nil, e, _ => by simp at e
  | _, _, _, 0, _, _, _, .cons a t, e, p => by cases e; exact .cons p t
  | _, _, _, i + 1, _, _, _, .cons a t, e, p => .cons a (t.set (i := i) (by simpa using e) p)
theorem RowO.snoc {P : V → β → Grp → Prop} : ∀ {vs : List V} {xs : List β} {gs : List Grp} {v : V} {x : β} {g : Grp}, RowO P vs xs gs → P v x g → RowO P (vs ++ [v]) (xs ++ [x]) (gs ++ [g])
  | _, _, _, _, _, _, .nil, p => .cons p .nil
  | _, _, _, _, _, _, .cons a t, p => .cons a (t.snoc p)
def OLo (P : OwnPred β) : OwnPred (List β) := fun K Ho v xs g => ∃ p vs gs, v = .ref p ∧ RowO (P K Ho) vs xs gs ∧ g = (p, HO.lst vs) :: gs.flatten
theorem OLo.mo {P : OwnPred β} [OwnD P] {xs : List β} {g : Grp} (h : OLo P K Ho v xs g) (e : Same Ho Ho') : OLo P K Ho' v xs g := by
  obtain ⟨p, vs, gs, rfl, r, rfl⟩ := h
  exact ⟨p, vs, gs, rfl, r.imp fun v x g h => OwnD.mo h e, rfl⟩
theorem RowO.rd {P : OwnPred β} [OwnD P] (e : Same Ho H) : ∀ {vs : List V} {xs : List β} {gs : List Grp}, RowO (P K Ho) vs xs gs → (∀ r ∈ gs.flatten, H r.1 = some r.2) → DL K H vs xs
  | _, _, _, .nil, _ => .nil
  | _, _, _, .cons a t, m => .cons (OwnD.rd a e fun r h => m r (by rw [List.flatten_cons]; exact List.mem_append_left _ h)) (RowO.rd e t fun r h => m r (by rw [List.flatten_cons]; exact List.mem_append_right _ h))
instance {P : OwnPred β} [OwnD P] : OwnD (OLo P) where
  mo := fun o e => OLo.mo o e
  rd := fun o e m => by
    obtain ⟨p, vs, gs, rfl, r, rfl⟩ := o
    exact .lst (SqL.of (m _ List.mem_cons_self)) (r.rd e fun q h => m q (List.mem_cons_of_mem _ h))
theorem flat_set {gs : List Grp} {i : Nat} {g g' : Grp} (h : gs[i]? = some g) : (gs.set i g').flatten.Perm (g' ++ (gs.set i []).flatten) := by
  induction gs generalizing i with
  | nil => simp at h
  | cons a gs ih =>
    cases i with
    | zero => simp
    | succ i =>
      have := ih (i := i) (by simpa using h)
      simp only [List.set_cons_succ, List.flatten_cons]
      refine (this.append_left a).trans ?_
      rw [← List.append_assoc, ← List.append_assoc]
      exact List.perm_append_comm.append_right _
theorem flat_at {gs : List Grp} {i : Nat} {g : Grp} (h : gs[i]? = some g) : gs.flatten.Perm (g ++ (gs.set i []).flatten) := by
  have e : gs.set i g = gs := by
    apply List.ext_getElem?
    intro j
    rw [List.getElem?_set]
    split
    · rename_i c; subst c
      obtain ⟨hl, _⟩ := List.getElem?_eq_some_iff.mp h
      rw [if_pos hl, h]
    · rfl
  have := flat_set (g' := g) h
  rwa [e] at this
/-- an item of a list is another one -/
def setI {α : Type} (xs : List α) (i : Int) (x : α) : List α := match ixN xs.length i with
  | some j => xs.set j x
  | none => xs
/-- a list, one of whose items (i) is looked after elsewhere -/
def OLh (P : OwnPred β) (i : Int) (u : V) : OwnPred (List β) := fun K Ho v xs g => ∃ p vs gs j, v = .ref p ∧ RowO (P K Ho) vs xs gs ∧ ixN xs.length i = some j ∧ vs[j]? = some u ∧ g = (p, HO.lst vs) :: (gs.set j []).flatten
theorem OLh.mo {P : OwnPred β} [OwnD P] {i : Int} {u : V} {xs : List β} {g : Grp} (h : OLh P i u K Ho v xs g) (e : Same Ho Ho') : OLh P i u K Ho' v xs g := by
  obtain ⟨p, vs, gs, j, rfl, r, q⟩ := h
  exact ⟨p, vs, gs, j, rfl, r.imp fun v x g h => OwnD.mo h e, q⟩
/-- an item's value is known -/
def ElAt (R : Grp) (v : V) (i : Int) (u : V) : Prop := ∃ p vs, v = .ref p ∧ (p, HO.lst vs) ∈ R ∧ atI vs i = some u
theorem at_ix {α : Type} {xs : List α} {i : Int} {x : α} (h : atI xs i = some x) : ∃ j, ixN xs.length i = some j ∧ xs[j]? = some x := by
  unfold atI at h
  cases q : ixN xs.length i with
  | none => rw [q] at h; cases h
  | some j => rw [q] at h; exact ⟨j, rfl, h⟩
theorem ix_at {α : Type} {xs : List α} {i : Int} {j : Nat} (h : ixN xs.length i = some j) : atI xs i = xs[j]? := by
  unfold atI
  rw [h]; rfl
/-- an item is taken into one's own hands (pb: it goes back as it was) -/
theorem o_open {P : OwnPred β} {xs : List β} {i : Int} {g : Grp} {f : β → W γ} {X : Prop} (o : OLo P K Ho v xs g) (z : Zs (g ++ R) H Ho) (hw : (W.bind (W.opt (atI xs i)) f).run Φ)
    (k : ∀ x u gi gh, (∀ R H Ho, Zs (gi ++ (gh ++ R)) H Ho → Zs (g ++ R) H Ho) → Zs (gi ++ (gh ++ R)) H Ho → OLh P i u K Ho v xs gh → P K Ho u x gi → (f x).run Φ → X) : X := by
  obtain ⟨x, ex, hw⟩ := hw
  obtain ⟨p, vs, gs, rfl, r, rfl⟩ := o
  obtain ⟨j, ej, hx⟩ := at_ix ex
  obtain ⟨u, gi, hu, hg, pu⟩ := r.get hx
  have pm : ∀ R : Grp, ((p, HO.lst vs) :: (gs.flatten ++ R)).Perm (gi ++ ((p, HO.lst vs) :: ((gs.set j []).flatten ++ R))) := fun R => by
    refine List.Perm.trans ?_ List.perm_middle.symm
    refine List.Perm.cons _ ?_
    rw [← List.append_assoc]
    exact (flat_at hg).append_right _
  exact k x u gi ((p, HO.lst vs) :: (gs.set j []).flatten) (fun R H Ho z => z.perm (pm R).symm) (z.perm (pm R)) ⟨p, vs, gs, j, rfl, r, ej, hu, rfl⟩ pu hw
/-- the same, the item's value known -/
theorem o_openE {P : OwnPred β} {xs : List β} {i : Int} {g R' : Grp} {u : V} {f : β → W γ} {X : Prop} (o : OLo P K Ho v xs g) (z : Zs (g ++ R) H Ho) (el : ElAt R' v i u) (m : ∀ r ∈ R', r ∈ g ++ R) (hw : (W.bind (W.opt (atI xs i)) f).run Φ)
    (k : ∀ x gi gh, (∀ R H Ho, Zs (gi ++ (gh ++ R)) H Ho → Zs (g ++ R) H Ho) → Zs (gi ++ (gh ++ R)) H Ho → OLh P i u K Ho v xs gh → P K Ho u x gi → (f x).run Φ → X) : X := by
  obtain ⟨p', vs', e1, m', e2⟩ := el
  have hp := (z.rt _ (m _ m')).1
  refine o_open o z hw fun x w gi gh pb z' oh pw hw => ?_
  have : w = u := by
    obtain ⟨p2, vs2, gs2, j, e, r2, ej, hj, hg2⟩ := id oh
    have ee := e1.symm.trans e
    cases ee
    have h3 := (z'.rt (p', HO.lst vs2) (List.mem_append_right _ (List.mem_append_left _ (by rw [hg2]; exact List.mem_cons_self)))).1
    have : vs2 = vs' := by
      have := h3.symm.trans hp
      cases this
      rfl
    subst this
    rw [← r2.len.1] at ej
    rw [ix_at ej, hj] at e2
    cases e2
    rfl
  subst this
  exact k x gi gh pb z' oh pw hw
/-- the item goes back into the list -/
theorem o_fill {P : OwnPred β} {xs : List β} {i : Int} {u : V} {x : β} {gi gh : Grp} {X : Prop} (oh : OLh P i u K Ho v xs gh) (o : P K Ho u x gi) (z : Zs (gi ++ (gh ++ R)) H Ho)
    (k : ∀ g, Zs (g ++ R) H Ho → OLo P K Ho v (setI xs i x) g → X) : X := by
  obtain ⟨p, vs, gs, j, rfl, r, ej, hu, rfl⟩ := oh
  obtain ⟨g0, hg⟩ : ∃ g, gs[j]? = some g := by
    have h1 := (List.getElem?_eq_some_iff.mp hu).1
    have := r.len
    exact ⟨_, List.getElem?_eq_getElem (by omega)⟩
  refine k ((p, HO.lst vs) :: (gs.set j gi).flatten) (z.perm ?_) ⟨p, vs, gs.set j gi, rfl, ?_, rfl⟩
  · show (gi ++ ((p, HO.lst vs) :: ((gs.set j []).flatten ++ R))).Perm ((p, HO.lst vs) :: ((gs.set j gi).flatten ++ R))
    refine List.perm_middle.trans (List.Perm.cons _ ?_)
    rw [← List.append_assoc]
    exact ((flat_set hg).symm).append_right _
  · unfold setI
    rw [ej]
    exact r.set hu o
/-- borrowed -/
def BLo (P : OwnPred β) (K : PySem.W.Frag) (R : Grp) (Ho : Hp) (v : V) (xs : List β) : Prop := ∃ g, OLo P K Ho v xs g ∧ ∀ r ∈ g, r ∈ R
theorem BLo.mo {P : OwnPred β} [OwnD P] {xs : List β} (h : BLo P K R Ho v xs) (e : Same Ho Ho') : BLo P K R Ho' v xs := by
  obtain ⟨g, o, m⟩ := h
  exact ⟨g, o.mo e, m⟩
theorem BLo.sub {P : OwnPred β} {R2 : Grp} {xs : List β} (h : BLo P K R Ho v xs) (e : ∀ r ∈ R, r ∈ R2) : BLo P K R2 Ho v xs := by
  obtain ⟨g, o, m⟩ := h
  exact ⟨g, o, fun r hr => e r (m r hr)⟩
theorem BLo.rd {P : OwnPred β} [OwnD P] {xs : List β} (h : BLo P K R Ho v xs) (z : Zs R H Ho) : Z.D K H v xs := by
  obtain ⟨g, o, m⟩ := h
  exact OwnD.rd o z.le (z.in_ m)
theorem y_lenLo {P : OwnPred β} {xs : List β} (h : BLo P K R Ho v xs) (z : Zs R H Ho) (k : Q (.int (xs.length : Int)) H) : rLenZ K [v] H Q := by
  obtain ⟨g, ⟨p, vs, gs, rfl, r, rfl⟩, m⟩ := h
  refine ⟨_, _, rfl, .inl (SqL.of (z.rt _ (m _ List.mem_cons_self)).1), ?_⟩
  rw [r.len.1]
  exact k
theorem y_ixLo {P : OwnPred β} {xs : List β} {i : Int} {rs : Grp} {f : β → W γ} (h : BLo P K R Ho v xs) (m0 : ∀ r ∈ R, r ∈ rs) (z : Zs rs H Ho) (hw : (W.bind (W.opt (atI xs i)) f).run Φ) (k : ∀ x u, ElAt R v i u → (∃ g, P K Ho u x g ∧ ∀ r ∈ g, r ∈ R) → (f x).run Φ → Q u H) : rIxL K v (.int i) H Q := by
  obtain ⟨x, ex, hw⟩ := hw
  obtain ⟨g, ⟨p, vs, gs, rfl, r, rfl⟩, m⟩ := h
  obtain ⟨j, ej, hx⟩ := at_ix ex
  obtain ⟨u, gi, hu, hg, pu⟩ := r.get hx
  have hm := m _ List.mem_cons_self
  have hat : atI vs i = some u := by
    rw [← r.len.1] at ej
    rw [ix_at ej, hu]
  exact ⟨p, vs, i, u, rfl, rfl, SqL.of (z.rt _ (m0 _ hm)).1, hat, k x u ⟨p, vs, rfl, hm, hat⟩ ⟨gi, pu, fun q hq => m q (List.mem_cons_of_mem _ (List.mem_flatten.mpr ⟨gi, List.mem_of_getElem? hg, hq⟩))⟩ hw⟩
/-- xs.append(x), both one's own: x goes into xs -/
theorem g_appO {P : OwnPred β} {xs : List β} {x : β} {g gi : Grp} {f : List β → W γ} (z : Zs (gi ++ (g ++ R)) H Ho) (o : OLo P K Ho v xs g) (ox : P K Ho w x gi) (hw : (W.bind (apd xs x) f).run Φ)
    (k : ∀ xs' g' H', Zs (g' ++ R) H' Ho → OLo P K Ho v xs' g' → (f xs').run Φ → Q .non H') : rAppend v [w] H Q := by
  obtain ⟨p, vs, gs, rfl, r, rfl⟩ := o
  have z1 : Zs ((p, HO.lst vs) :: (gi ++ (gs.flatten ++ R))) H Ho := z.perm List.perm_middle
  refine ⟨p, vs, w, rfl, rfl, z1.head, by rw [r.len.1]; exact hw.1, k _ ((p, HO.lst (vs ++ [w])) :: (gs ++ [gi]).flatten) _ ?_ ⟨p, _, _, rfl, r.snoc ox, rfl⟩ hw.2⟩
  refine z1.put.perm (List.Perm.cons _ ?_)
  rw [List.flatten_append, List.flatten_singleton, ← List.append_assoc]
  exact List.perm_append_comm.append_right _
/-- a loop over such a list, each item changed in its turn -/
def mapL {β : Type} : List β → (β → W (Unit × β)) → W (List β)
  | [], _ => W.ret []
  | x :: xs, c => W.bind (c x) fun r => W.bind (mapL xs c) fun ys => W.ret (r.2 :: ys)
theorem set_mid {α : Type} : ∀ {xs ys : List α} {x y : α}, (xs ++ x :: ys).set xs.length y = xs ++ y :: ys
  | [], _, _, _ => rfl
  | a :: xs, ys, x, y => by simp [set_mid (xs := xs)]
theorem y_forM {P : OwnPred β} [OwnD P] {xs : List β} {c : β → W (Unit × β)} {f : List β → W γ} {g : Grp} {tg : TG} {tb u1 : TS} {D : Ends} {σ : L2.St} (o : OLo P K Ho v xs g) (z : Zs (g ++ R) H Ho) (hw : (W.bind (mapL xs c) f).run Φ) (I : L2.St → Prop) (i0 : I σ)
    (step : ∀ a u gi R' σ' H' Ho' (N : L2.St → Hp → Prop), Zs (gi ++ R') H' Ho' → P K Ho' u a gi → I σ' → (c a).run (fun r => ∀ σ'' gi' H'' Ho'', I σ'' → Same Ho' Ho'' → Zs (gi' ++ R') H'' Ho'' → P K Ho'' u r.2 gi' → N σ'' H'') → tg u σ' H' fun σ2 H2 => tb { D with nx := N, ct := N, bk := u1 D } σ2 H2)
    (done : ∀ xs' g' σ' H' Ho', Same Ho Ho' → Zs (g' ++ R) H' Ho' → OLo P K Ho' v xs' g' → I σ' → (f xs').run Φ → u1 D σ' H') : SrcL K (fun J H1 => ForG tg tb u1 D σ J H1) v H := by
  obtain ⟨p, vs, gs, rfl, r, rfl⟩ := o
  refine ⟨p, rfl, ⟨vs, SqL.of (z.rt _ (List.mem_append_left _ List.mem_cons_self)).1⟩, ?_⟩
  refine ⟨fun i m σ' H' => m = xs.length - i ∧ ∃ Ho' xs' ys gs', Same Ho Ho' ∧ xs'.length = i ∧ i + ys.length = xs.length ∧ RowO (P K Ho') vs (xs' ++ ys) gs' ∧ Zs (((p, HO.lst vs) :: gs'.flatten) ++ R) H' Ho' ∧ I σ' ∧ (W.bind (mapL ys c) fun zs => f (xs' ++ zs)).run Φ,
    ⟨xs.length, by simp, Ho, [], xs, gs, Same.refl _, rfl, by simp, r, z, i0, hw⟩, ?_⟩
  rintro i m σ' H' ⟨rfl, Ho', xs', ys, gs', e', l1, l2, r', z', hI, hw⟩
  have sq : SqL K H' p vs := SqL.of (z'.rt _ (List.mem_append_left _ List.mem_cons_self)).1
  cases ys with
  | nil =>
    refine .inl ⟨⟨vs, sq, ?_⟩, ?_⟩
    · rw [r'.len.1, List.append_nil, l1]; exact Nat.le_refl _
    · rw [List.append_nil] at r'
      have hw : (f (xs' ++ [])).run Φ := hw
      rw [List.append_nil] at hw
      exact done xs' _ σ' H' Ho' e' z' ⟨p, vs, gs', rfl, r', rfl⟩ hI hw
  | cons y ys =>
    refine .inr ?_
    have hx : (xs' ++ y :: ys)[i]? = some y := by rw [List.getElem?_append_right (by omega), l1]; simp
    obtain ⟨u, gi, hu, hg, pu⟩ := r'.get hx
    refine ⟨⟨vs, u, sq, hu⟩, fun σ'' H'' => ∃ Ho' xs' ys gs', Same Ho Ho' ∧ xs'.length = i + 1 ∧ i + 1 + ys.length = xs.length ∧ RowO (P K Ho') vs (xs' ++ ys) gs' ∧ Zs (((p, HO.lst vs) :: gs'.flatten) ++ R) H'' Ho' ∧ I σ'' ∧ (W.bind (mapL ys c) fun zs => f (xs' ++ zs)).run Φ,
      fun σ'' H'' hN => ⟨xs.length - (i + 1), by rw [List.length_cons] at l2; omega, rfl, hN⟩, fun x H'' yy => ?_⟩
    obtain ⟨rfl, yy⟩ := yy
    have ex : x = u := Option.some.inj ((yy _ sq).symm.trans hu)
    subst ex
    have z2 : Zs (gi ++ ((p, HO.lst vs) :: ((gs'.set i []).flatten ++ R))) H'' Ho' := z'.perm (by
      refine List.Perm.trans ?_ List.perm_middle.symm
      refine List.Perm.cons _ ?_
      rw [← List.append_assoc]
      exact (flat_at hg).append_right _)
    refine step y x gi _ σ' H'' Ho' _ z2 pu hI ?_
    refine W.mono _ _ _ (fun q hq σ3 gi' H3 Ho3 hI3 e3 z3 pq => ?_) (show (c y).run _ from hw)
    refine ⟨Ho3, xs' ++ [q.2], ys, gs'.set i gi', e'.trans e3, by simp [l1], by rw [List.length_cons] at l2; omega, ?_, ?_, hI3, ?_⟩
    · have r4 := (r'.imp (P' := P K Ho3) fun v x g h => OwnD.mo h e3).set hu pq
      rw [← l1, set_mid] at r4
      rw [List.append_assoc]
      rw [← l1]
      exact r4
    · refine z3.perm (List.perm_middle.trans (List.Perm.cons _ ?_))
      rw [← List.append_assoc]
      exact ((flat_set hg).symm).append_right _
    · have hq : (W.bind (mapL ys c) fun zs => f (xs' ++ q.2 :: zs)).run Φ := hq
      have : (fun zs => f (xs' ++ [q.2] ++ zs)) = fun zs => f (xs' ++ q.2 :: zs) := by funext zs; rw [List.append_assoc]; rfl
      rw [this]
      exact hq
theorem g_tyLo {P : OwnPred β} {xs : List β} {X : Prop} (h : BLo P K R Ho v xs) (z : Zs R H Ho) (k : X) : tyV K "list" v H ∧ X := by
  obtain ⟨g, ⟨p, vs, gs, rfl, r, rfl⟩, m⟩ := h
  exact ⟨.inl ⟨rfl, _, SqL.of (z.rt _ (m _ List.mem_cons_self)).1⟩, k⟩
theorem g_clearO {P : OwnPred β} {xs : List β} {g : Grp} (z : Zs (g ++ R) H Ho) (o : OLo P K Ho v xs g) (k : ∀ g' H', Zs (g' ++ R) H' Ho → OLo P K Ho v ([] : List β) g' → Q .non H') : rClear v [] H Q := by
  obtain ⟨p, vs, gs, rfl, r, rfl⟩ := o
  have z1 : Zs ((p, HO.lst vs) :: R) H Ho := z.sub (List.Sublist.cons₂ _ (List.sublist_append_right _ _))
  exact ⟨p, vs, rfl, rfl, z1.head, k [(p, HO.lst [])] _ z1.put ⟨p, [], [], rfl, .nil, rfl⟩⟩
theorem o_nil {P : OwnPred β} {p : Addr} : OLo P K Ho (.ref p) ([] : List β) [(p, HO.lst [])] := ⟨p, [], [], rfl, .nil, rfl⟩
end
/-! ### comprehensions that tell own things -/
/-- the turns of an iterator: what is known of each item -/
def TrnP {α : Type} (P : Hp → V → α → Prop) (r0 : Grp) (J : It) (xs : List α) (Ho2 : Hp) : Prop :=
  ∀ i rs' H' Ho', Same Ho2 Ho' → Zs rs' H' Ho' → (∀ r ∈ r0, r ∈ rs') → (∀ a, xs[i]? = some a → J.go i H' ∧ ∀ x H'', J.yld i H' x H'' → ∃ Ho'', Same Ho' Ho'' ∧ (∀ rs, Zs rs H' Ho' → Zs rs H'' Ho'') ∧ P Ho'' x a) ∧ (xs.length ≤ i → J.stop i H')
section
variable {K : PySem.W.Frag} {H Ho H' Ho' : Hp} {R r0 rs : Grp} {v w : V} {α β γ : Type} [Py β] {Φ : γ → Prop} {Q : VK} {σ : L2.St} {g : TG} {tt : TT} {te : TE} {vs : List Nat}
theorem trn_bor {P : OwnPred α} [Py α] [OwnD P] {xs : List α} (h : BLo P K r0 Ho v xs) (z : Zs r0 H Ho) : ∃ p, v = .ref p ∧ (∃ ys, SqL K H p ys) ∧ TrnP (fun Ho x a => ∃ g, P K Ho x a g ∧ ∀ r ∈ g, r ∈ r0) r0 (Itl K p) xs Ho := by
  obtain ⟨g, ⟨p, vs, gs, rfl, r, rfl⟩, m⟩ := h
  have hm := m _ List.mem_cons_self
  refine ⟨p, rfl, ⟨vs, SqL.of (z.rt _ hm).1⟩, ?_⟩
  intro i rs' H' Ho' e z' sub
  have sq : SqL K H' p vs := SqL.of (z'.rt _ (sub _ hm)).1
  refine ⟨fun a ha => ?_, fun hl => ⟨vs, sq, by rw [r.len.1]; exact hl⟩⟩
  obtain ⟨u, gi, hu, hg, pu⟩ := r.get ha
  refine ⟨⟨vs, u, sq, hu⟩, fun x H'' y => ?_⟩
  obtain ⟨rfl, y⟩ := y
  have ex : x = u := Option.some.inj ((y _ sq).symm.trans hu)
  subst ex
  refine ⟨Ho', Same.refl _, fun _ z => z, gi, OwnD.mo pu e, fun q hq => m q (List.mem_cons_of_mem _ ?_)⟩
  exact List.mem_flatten.mpr ⟨gi, List.mem_of_getElem? hg, hq⟩
theorem k_srcB {P : OwnPred α} [Py α] [OwnD P] {RI : It → Hp → Prop} {xs : List α} (h : BLo P K r0 Ho v xs) (m : ∀ r ∈ r0, r ∈ rs) (z : Zs rs H Ho) (k : ∀ J, TrnP (fun Ho x a => ∃ g, P K Ho x a g ∧ ∀ r ∈ g, r ∈ r0) r0 J xs Ho → RI J H) : SrcL K RI v H := by
  obtain ⟨g, ⟨p, vs, gs, rfl, r, rfl⟩, m1⟩ := h
  have hm := m1 _ List.mem_cons_self
  refine ⟨p, rfl, ⟨vs, SqL.of (z.rt _ (m _ hm)).1⟩, k _ ?_⟩
  intro i rs' H' Ho' e z' sub
  have sq : SqL K H' p vs := SqL.of (z'.rt _ (sub _ hm)).1
  refine ⟨fun a ha => ?_, fun hl => ⟨vs, sq, by rw [r.len.1]; exact hl⟩⟩
  obtain ⟨u, gi, hu, hg, pu⟩ := r.get ha
  refine ⟨⟨vs, u, sq, hu⟩, fun x H'' y => ?_⟩
  obtain ⟨rfl, y⟩ := y
  have ex : x = u := Option.some.inj ((y _ sq).symm.trans hu)
  subst ex
  refine ⟨Ho', Same.refl _, fun _ z => z, gi, OwnD.mo pu e, fun q hq => m1 q (List.mem_cons_of_mem _ ?_)⟩
  exact List.mem_flatten.mpr ⟨gi, List.mem_of_getElem? hg, hq⟩
theorem y_lcGP {PI : Hp → V → α → Prop} {J : It} {xs : List α} {ct : α → W Bool} {cf : α → W β} {f : List β → W γ} (z : Zs rs H Ho) (hr : ∀ r ∈ r0, r ∈ rs) (T : TrnP PI r0 J xs Ho) (hw : (W.bind (compG xs ct cf) f).run Φ)
    (hx : ∀ (r : Addr × HO) a x H' Ho' (N : VK) (N' : Hp → Prop), Same Ho Ho' → Zs (r :: rs) H' Ho' → PI Ho' x a →
      (W.bind (ct a) fun b => W.ite b (cf a) ⟨fun Ψ => ∀ H'' Ho'', Same Ho' Ho'' → Zs (r :: rs) H'' Ho'' → N' H'', fun _ _ _ q => q⟩).run (fun y => ∀ w H'' Ho'', Same Ho' Ho'' → Zs (r :: rs) H'' Ho'' → Z.D K Ho'' w y → N w H'') →
      g x (wipe σ vs) H' fun σ2 H2 => wipe σ2 vs = wipe σ vs ∧ tt σ2 H2 fun b H3 => if b = true then te σ2 H3 N else N' H3)
    (k : ∀ ys H' Ho', Same Ho Ho' → (f ys).run Φ → ∀ p ws, Zs ((p, .lst ws) :: rs) H' Ho' → DL K Ho' ws ys → Q (.ref p) H') : LcG g tt te vs σ Q J H := by
  intro Dn hD
  obtain ⟨hsz, hw⟩ := hw
  refine ⟨fun i m H => m = xs.length - i ∧ i ≤ xs.length ∧ ∃ (Ho' : Hp) (acc : List β) (acs : List V), Same Ho Ho' ∧ Zs ((Dn, .lst acs) :: rs) H Ho' ∧ DL K Ho' acs acc ∧ acs.length ≤ i ∧ (comp (xs.drop i) acc ct cf).run fun ys => (f ys).run Φ,
    ⟨xs.length, by simp, Nat.zero_le _, Ho, [], [], Same.refl _, z.root hD, .nil, Nat.le_refl _, hw⟩, ?_⟩
  rintro i m H ⟨rfl, hi, Ho', acc, acs, e', z', da, la, hw⟩
  have tr := T i _ H Ho' e' z' fun r hrr => List.mem_cons_of_mem _ (hr r hrr)
  by_cases hlt : i < xs.length
  · refine .inr ?_
    have hxi := List.getElem?_eq_getElem hlt
    obtain ⟨go, yl⟩ := tr.1 _ hxi
    refine ⟨go, fun H' => ∃ (Ho' : Hp) (acc : List β) (acs : List V), Same Ho Ho' ∧ Zs ((Dn, .lst acs) :: rs) H' Ho' ∧ DL K Ho' acs acc ∧ acs.length ≤ i + 1 ∧ (comp (xs.drop (i + 1)) acc ct cf).run fun ys => (f ys).run Φ, fun H' hN => ⟨xs.length - (i + 1), by omega, rfl, hlt, hN⟩, fun x H' y => ?_⟩
    obtain ⟨Ho2, e2, z2, dx⟩ := yl x H' y
    rw [drop_cons hxi] at hw
    refine hx (Dn, .lst acs) _ x H' Ho2 _ _ (e'.trans e2) (z2 _ z') dx ?_
    have hw : (ct xs[i]).run fun b => (W.ite b (W.bind (cf xs[i]) fun y => comp (xs.drop (i + 1)) (acc ++ [y]) ct cf) (comp (xs.drop (i + 1)) acc ct cf)).run fun ys => (f ys).run Φ := hw
    show (ct xs[i]).run _
    refine W.mono _ _ _ (fun b hb => ?_) hw
    refine ⟨fun e => ?_, fun e H'' Ho'' e3 z3 => ?_⟩
    · refine W.mono _ _ _ (fun y hy w H'' Ho'' e3 z3 dw => ?_) (hb.1 e)
      refine ⟨acs, z3.head, by omega, Ho'', acc ++ [y], acs ++ [w], (e'.trans e2).trans e3, z3.put, (DL.mo (DL.mo da e2) e3).push dw, ?_, hy⟩
      rw [List.length_append]
      exact Nat.succ_le_succ la
    · exact ⟨Ho'', acc, acs, (e'.trans e2).trans e3, z3, DL.mo (DL.mo da e2) e3, Nat.le_succ_of_le la, hb.2 e⟩
  · have e : i = xs.length := by omega
    subst e
    refine .inl ⟨tr.2 (Nat.le_refl _), ?_⟩
    rw [List.drop_length] at hw
    exact k acc H Ho' e' hw Dn acs z' da
theorem y_lcO {P : OwnPred β} [OwnD P] {PI : Hp → V → α → Prop} {J : It} {xs : List α} {cf : α → W β} {f : List β → W γ} (z : Zs rs H Ho) (hr : ∀ r ∈ r0, r ∈ rs) (T : TrnP PI r0 J xs Ho) (hw : (W.bind (compG xs (fun _ => W.ret true) cf) f).run Φ)
    (hx : ∀ (r : Grp) a x H' Ho' (N : VK) (N' : Hp → Prop), Same Ho Ho' → Zs (r ++ rs) H' Ho' → PI Ho' x a →
      (cf a).run (fun y => ∀ w gi H'' Ho'', Same Ho' Ho'' → Zs (gi ++ (r ++ rs)) H'' Ho'' → P K Ho'' w y gi → N w H'') →
      g x (wipe σ vs) H' fun σ2 H2 => wipe σ2 vs = wipe σ vs ∧ tt σ2 H2 fun b H3 => if b = true then te σ2 H3 N else N' H3)
    (k : ∀ ys u gn H' Ho', Same Ho Ho' → (f ys).run Φ → Zs (gn ++ rs) H' Ho' → OLo P K Ho' u ys gn → Q u H') : LcG g tt te vs σ Q J H := by
  intro Dn hD
  obtain ⟨hsz, hw⟩ := hw
  refine ⟨fun i m H => m = xs.length - i ∧ i ≤ xs.length ∧ ∃ (Ho' : Hp) (acc : List β) (acs : List V) (gs : List Grp), Same Ho Ho' ∧ Zs (((Dn, HO.lst acs) :: gs.flatten) ++ rs) H Ho' ∧ RowO (P K Ho') acs acc gs ∧ acs.length ≤ i ∧ (comp (xs.drop i) acc (fun _ => W.ret true) cf).run fun ys => (f ys).run Φ,
    ⟨xs.length, by simp, Nat.zero_le _, Ho, [], [], [], Same.refl _, z.root hD, .nil, Nat.le_refl _, hw⟩, ?_⟩
  rintro i m H ⟨rfl, hi, Ho', acc, acs, gs, e', z', da, la, hw⟩
  have tr := T i _ H Ho' e' z' fun r hrr => List.mem_append_right _ (hr r hrr)
  by_cases hlt : i < xs.length
  · refine .inr ?_
    have hxi := List.getElem?_eq_getElem hlt
    obtain ⟨go, yl⟩ := tr.1 _ hxi
    refine ⟨go, fun H' => ∃ (Ho' : Hp) (acc : List β) (acs : List V) (gs : List Grp), Same Ho Ho' ∧ Zs (((Dn, HO.lst acs) :: gs.flatten) ++ rs) H' Ho' ∧ RowO (P K Ho') acs acc gs ∧ acs.length ≤ i + 1 ∧ (comp (xs.drop (i + 1)) acc (fun _ => W.ret true) cf).run fun ys => (f ys).run Φ,
      fun H' hN => ⟨xs.length - (i + 1), by omega, rfl, hlt, hN⟩, fun x H' y => ?_⟩
    obtain ⟨Ho2, e2, z2, dx⟩ := yl x H' y
    rw [drop_cons hxi] at hw
    have hw : (cf xs[i]).run fun y => (comp (xs.drop (i + 1)) (acc ++ [y]) (fun _ => W.ret true) cf).run fun ys => (f ys).run Φ := hw.1 rfl
    refine hx ((Dn, HO.lst acs) :: gs.flatten) _ x H' Ho2 _ _ (e'.trans e2) (z2 _ z') dx ?_
    refine W.mono _ _ _ (fun y hy w gi H'' Ho'' e3 z3 dw => ?_) hw
    have z4 : Zs ((Dn, HO.lst acs) :: (gi ++ (gs.flatten ++ rs))) H'' Ho'' := z3.perm List.perm_middle
    refine ⟨acs, z4.head, by omega, Ho'', acc ++ [y], acs ++ [w], gs ++ [gi], (e'.trans e2).trans e3, ?_, (da.imp fun v x g h => OwnD.mo h (e2.trans e3)).snoc dw, ?_, hy⟩
    · refine z4.put.perm (List.Perm.cons _ ?_)
      rw [List.flatten_append, List.flatten_singleton, ← List.append_assoc]
      exact List.perm_append_comm.append_right _
    · rw [List.length_append]
      exact Nat.succ_le_succ la
  · have e : i = xs.length := by omega
    subst e
    refine .inl ⟨tr.2 (Nat.le_refl _), ?_⟩
    rw [List.drop_length] at hw
    exact k acc (.ref Dn) _ H Ho' e' hw z' ⟨Dn, acs, gs, rfl, da, rfl⟩
end
/-! ### one of several lists, picked -/
inductive LVs {α : Type} [Py α] (K : PySem.W.Frag) (R : Grp) (Ho : Hp) : List V → List (List α) → Prop
  | nil : LVs K R Ho [] []
  | cons {v : V} {x : List α} {vs : List V} {xs : List (List α)} (h : LV K R Ho v x) (t : LVs K R Ho vs xs) : LVs K R Ho (v :: vs) (x :: xs)
section
variable {K : PySem.W.Frag} {H Ho Ho' : Hp} {R rs : Grp} {v w : V} {α γ : Type} [Py α] {Φ : γ → Prop} {Q : VK} {vs : List V} {xss : List (List α)}
theorem LVs.get : ∀ {vs : List V} {xss : List (List α)} {i : Nat} {x : List α}, LVs K R Ho vs xss → xss[i]? = some x → ∃ v, vs[i]? = some v ∧ LV K R Ho v x
  | _, _, i, _, .nil, e => by simp at e
  | _, _, 0, _, .cons a t, e => by cases e; exact ⟨_, rfl, a⟩
  | _, _, i + 1, _, .cons a t, e => t.get (i := i) (by simpa using e)
theorem LVs.len : ∀ {vs : List V} {xss : List (List α)}, LVs K R Ho vs xss → vs.length = xss.length
  | _, _, .nil => rfl
  | _, _, .cons a t => by simp [t.len]
theorem LVs.mo (e : Same Ho Ho') : ∀ {vs : List V} {xss : List (List α)}, LVs K R Ho vs xss → LVs K R Ho' vs xss
  | _, _, .nil => .nil
  | _, _, .cons a t => .cons (a.mo e) (t.mo e)
def Pick {α : Type} [Py α] (K : PySem.W.Frag) (R : Grp) (Ho : Hp) (v : V) (xss : List (List α)) (g : Grp) : Prop := ∃ p vs, v = .ref p ∧ LVs K R Ho vs xss ∧ g = [(p, HO.lst vs)]
theorem k_lstP (z : Zs R H Ho) (l : LVs K R Ho vs xss) (hl : vs.length ≤ sizeLine) (k : ∀ p g H', Zs (g ++ R) H' Ho → Pick K R Ho (.ref p) xss g → Q (.ref p) H') : LstK Q vs H := ⟨hl, fun p hp => k p _ _ (z.root hp) ⟨p, vs, rfl, l, rfl⟩⟩
theorem y_ixPk {i : Int} {g : Grp} {f : List α → W γ} (h : Pick K R Ho v xss g) (m : ∀ r ∈ g, r ∈ rs) (z : Zs rs H Ho) (hw : (W.bind (W.opt (atI xss i)) f).run Φ) (k : ∀ t u, LV K R Ho u t → (f t).run Φ → Q u H) : rIxL K v (.int i) H Q := by
  obtain ⟨x, ex, hw⟩ := hw
  obtain ⟨p, vs, rfl, l, rfl⟩ := h
  obtain ⟨j, ej, hx⟩ := at_ix ex
  obtain ⟨u, hu, lu⟩ := l.get hx
  refine ⟨p, vs, i, u, rfl, rfl, SqL.of (z.rt _ (m _ List.mem_cons_self)).1, ?_, k x u lu hw⟩
  rw [← l.len] at ej
  rw [ix_at ej, hu]
theorem c_unlR2 {β δ : Type} [Py β] [Py δ] {σ : L2.St} {i j : Nat} {x : V} {QS : L2.St → Hp → Prop} {a : α} {b : β} {c : δ} (σ' : V → V → L2.St) (hσ : ∀ v u, (σ.set i (some v)).set j (some u) = σ' v u) (d : Z.D K Ho x a) (hx : toPy a = .list [toPy b, toPy c]) (z : Zs rs H Ho)
    (k : ∀ v u, Z.D K Ho v b → Z.D K Ho u c → QS (σ' v u) H) : gUnl K 2 (gCons (gName i) (gCons (gName j) gNil)) x σ H QS := by
  have d : Dq K Ho x (toPy a) := d
  rw [hx] at d
  cases d with
  | lst hs ha =>
    cases ha with
    | cons h1 h2 =>
      cases h2 with
      | cons h2 h3 =>
        cases h3
        exact ⟨_, _, rfl, z.le.seq hs, rfl, _, _, rfl, _, _, rfl, rfl, by rw [hσ]; exact k _ _ h1 h2⟩
end
/-! ### None, told of data of any kind -/
def pyNone : PyData → Bool
  | .none => true
  | _ => false
theorem dec_nonP {K : PySem.W.Frag} {Ho : Hp} {v : V} {x : PyData} (d : Z.D K Ho v x) : decide (v = V.non) = pyNone x := by
  have d : Dq K Ho v x := d
  cases d <;> first | rfl | exact decide_eq_false (fun e => by cases e)
/-! ### methods of instances that stand for good; lists whose places are fields -/
section
variable {K : PySem.W.Frag} {H Ho : Hp} {rs R : Grp} {v w : V} {Q : VK} {QH : Hp → Prop} {q a : Addr} {cn m : Str} {ns : List Str} {G : V → Hp → Prop} {vs : List V} {i : Int} {j : Nat}
theorem o_metD {α : Type} [Py α] {x : α} {ds : List PyData} (c : CF K q cn ns) (d : Z.D K Ho v x) (hx : toPy x = pyIns cn ns ds) (z : Zs rs H Ho) (hn : m ∉ ns) (k : G v H) : MetK q m G v H := by
  obtain ⟨a, C, dx, vs, rfl, hC, hs, ha⟩ := dq_ins d hx
  obtain rfl := c.eq hC
  exact ⟨a, dx, _, rfl, z.le _ _ hs, lk_none hn, k⟩
theorem lr_ix (hm : ∀ r ∈ ([(a, HO.lst vs)] : Grp), r ∈ rs) (z : Zs rs H Ho) (h : atI vs i = some v) (k : Q v H) : rIxL K (.ref a) (.int i) H Q :=
  ⟨a, vs, i, v, rfl, rfl, SqL.of (z.rt _ (hm _ List.mem_cons_self)).1, h, k⟩
theorem lr_ixD {α β : Type} [Py α] [Py β] {x : α} {y : β} {ds : List PyData} (d : Z.D K Ho v x) (hx : toPy x = .list ds) (h : atI ds i = some (toPy y)) (z : Zs rs H Ho) (k : ∀ u, Z.D K Ho u y → Q u H) : rIxL K v (.int i) H Q := by
  have d : Dq K Ho v (toPy x) := d
  rw [hx] at d
  cases d with
  | lst hs ha =>
    obtain ⟨u, hu, du⟩ := atI_dqG ha h
    exact ⟨_, _, i, u, rfl, rfl, z.le.seq hs, hu, k u du⟩
theorem lr_st (z : Zs ([(a, HO.lst vs)] ++ R) H Ho) (h : ixN vs.length i = some j) (k : ∀ H', Zs ([(a, HO.lst (vs.set j w))] ++ R) H' Ho → QH H') : rSetL (.ref a) (.int i) w H QH :=
  ⟨a, vs, i, j, rfl, rfl, Zs.head z, h, k _ (Zs.put z)⟩
theorem k_lstR (z : Zs R H Ho) (hl : vs.length ≤ sizeLine) (k : ∀ p H', Zs ([(p, HO.lst vs)] ++ R) H' Ho → Q (.ref p) H') : LstK Q vs H := ⟨hl, fun p hp => k p _ (z.root hp)⟩
theorem zop_inT {X : Cx} (hK : X.K = K) : OpR X (compareOp .In) (rIn K false) := hK ▸ op_in_seq
theorem inV_strs {a : Str} : ∀ {ss : List Str}, inV (.str a) (ss.map V.str) = decide (a ∈ ss)
  | [] => by simp [inV]
  | s :: ss => by
    have ih := inV_strs (a := a) (ss := ss)
    unfold inV at ih ⊢
    rw [List.map_cons, List.any_cons, ih]
    have e : eqV (.str s) (.str a) = decide (s = a) := rfl
    rw [e]
    by_cases c : s = a
    · subst c; simp
    · have : a ≠ s := fun e => c e.symm
      simp [c, this]
theorem flat_strs : ∀ {ss : List Str}, (ss.map V.str).all flatV = true
  | [] => rfl
  | s :: ss => by rw [List.map_cons, List.all_cons, flat_strs]; rfl
theorem dq_strs {H : Hp} : ∀ {vs : List V} {ss : List Str}, DqAll K H vs (ss.map PyData.str) → vs = ss.map V.str
  | [], [], _ => rfl
  | [], _ :: _, h => by cases h
  | _ :: _, [], h => by cases h
  | v :: vs, s :: ss, h => by
    cases h with
    | cons h1 h2 =>
      cases h1
      rw [dq_strs h2]; rfl
theorem y_inT {α : Type} [Py α] {x : α} {a : Str} {ss : List Str} (d : Z.D K Ho w x) (hx : toPy x = .tuple (ss.map .str)) (z : Zs rs H Ho) (k : Q (.bl (decide (a ∈ ss))) H) : rIn K false (.str a) w H Q := by
  have d : Dq K Ho w (toPy x) := d
  rw [hx] at d
  cases d with
  | tup hs ha =>
    rw [dq_strs ha] at hs
    refine ⟨_, _, rfl, .inr (SqT.of (z.le _ _ hs)), rfl, flat_strs, ?_⟩
    rw [if_neg Bool.false_ne_true, inV_strs]
    exact k
/-! self.f += n -/
def FAugK (K : PySem.W.Frag) (tv : TE) (rd : V → V → Hp → VK → Prop) (f : Str) (N : Hp → Prop) (σ : L2.St) (x : V) (H1 : Hp) : Prop := ∃ a C dx fs v, x = .ref a ∧ H1 a = some (.ins C dx fs) ∧ Cls K C ∧ NoAttr K C f ∧ fs.lookup f = some v ∧
  tv σ H1 fun y H2 => rd v y H2 fun z H3 => ∃ dx' fs', H3 a = some (.ins C dx' fs') ∧ fs'.length < 1000 ∧ N (upd H3 a (.ins C dx' (putF f z fs')))
theorem zps_fldaug {X : Cx} {ta tv : TE} {op : Operator} {rd : V → V → Hp → VK → Prop} {o value : Expr} {f : Str} {pos tpos : Pos} (hK : X.K = K) (ha : PE X o ta) (hv : PE X value tv) (hop : InOp X op rd) : PS X (.AugAssign (.Attribute o f tpos) op value pos) (sFldAug K ta tv rd f) := hK ▸ ps_fldaug ha hv hop
theorem y_fldaug {ta tv : TE} {rd : V → V → Hp → VK → Prop} {f : Str} {u : TS} {D : Ends} {σ : L2.St} (k : ta σ H fun x H1 => FAugK K tv rd f (fun H' => u D σ H') σ x H1) : tSeq (sFldAug K ta tv rd f) u D σ H := k
theorem o_faug {σ : L2.St} {N : Hp → Prop} {f : Str} {dx : Addr} {n m : Int} (c : CF K q cn ns) (z : Zs ([(a, HO.ins q dx (ns.zip vs))] ++ R) H Ho) (hn : ns[j]? = some f) (hv : vs[j]? = some (.int n)) (k : ∀ H', Zs ([(a, HO.ins q dx (ns.zip (vs.set j (.int (n + m)))))] ++ R) H' Ho → N H') :
    FAugK K (tC (.int m)) rAdd f N σ (.ref a) H := by
  have hf := List.mem_of_getElem? hn
  refine ⟨a, q, dx, _, .int n, rfl, Zs.head z, c.cl, c.na f hf, lk_zip c.nd hn hv, ?_⟩
  refine ⟨n, m, rfl, rfl, dx, _, Zs.head z, len_zip_few c, ?_⟩
  rw [put_zip c.nd hn (List.getElem?_eq_some_iff.mp hv).1]
  exact k _ (Zs.put z)
theorem l_any2 {G : V → Prop} (k : G v) : LetV G v := k
/-- text.index(sign) -/
def sIdx (a b : Str) : Option Int := match Builtin.Str.occurrences a b 0 a.length 1 with
  | i :: _ => some (i : Int)
  | [] => none
def rSIdx : V → List V → Hp → VK → Prop := fun x xs H Q => ∃ a b i rest, x = .str a ∧ xs = [.str b] ∧ Builtin.Str.occurrences a b 0 a.length 1 = i :: rest ∧ Q (.int (i : Nat)) H
theorem zmt_sindex {X : Cx} : MtR X "str.index" rSIdx := mt_sindex
theorem y_sindex {a b : Str} {γ : Type} {f : Int → W γ} {Φ : γ → Prop} (hw : (W.bind (W.opt (sIdx a b)) f).run Φ) (k : ∀ t, (f t).run Φ → Q (.int t) H) : rSIdx (.str a) [.str b] H Q := by
  obtain ⟨t, e, hw⟩ := hw
  unfold sIdx at e
  split at e
  · rename_i i rest h
    cases e
    exact ⟨a, b, i, rest, rfl, rfl, h, k _ hw⟩
  · cases e
end
end Z

/-! # a def with one default, called with all its arguments or with the last by its name -/
namespace L2
open PySem PySem.Spec PyProof.Rows
section
variable {P : Program} {w : World} {K : PySem.W.Frag} {mg : Str → Option Value} {base : Heap} {x qual : Str} {params : Arguments} {body : List Stmt} {scope : Scope} {dvs : List V} {kws : List (Str × V)} {f T : Addr} {fd : FuncData} {d : V} {a b : Str}
theorem FunD.ok0 {N ps : List Str} {k : Nat} {sp : Sp} (F : FunD K x qual params body scope dvs kws f fd) (S : FnScope N ps scope) (len : ∀ vs H Q E, sp vs H Q E → vs.length = ps.length)
    (hbody : ∀ (cdv : Value) (A : Around) (outer : List Env) (s : Shared) (H : Hp) (vs : List V) (Q : VK) (E : XK), Room k (A.deeper (envOfC qual scope s.heap.objs.size f cdv)) → sp vs H Q E →
      ∃ t, PSs (cxOf CX0 P w K mg base N qual scope f cdv A outer s H E).nox body t ∧ t { nx := fun _ H' => Q .non H', rt := Q } (start N vs) H) : FnOk P w K mg base CX0 (k + 1) f fd ps sp := by
  obtain ⟨oc, od, dV, kV, doc, pm, an, cdv, ct, osl, rfl, lk, hcd, _, _⟩ := F.ex
  refine fn_of lk hcd S len fun A outer s H vs Q E hr hsp => ?_
  obtain ⟨t, h, q⟩ := hbody cdv A outer s H vs Q E hr hsp
  exact ⟨t, h.nox, q⟩
theorem FunD.okX {N ps : List Str} {k : Nat} {sp : Sp} (F : FunD K x qual params body scope dvs kws f fd) (S : FnScope N ps scope) (len : ∀ vs H Q E, sp vs H Q E → vs.length = ps.length)
    (hbody : ∀ (cdv : Value) (A : Around) (outer : List Env) (s : Shared) (H : Hp) (vs : List V) (Q : VK) (E : XK), Room k (A.deeper (envOfC qual scope s.heap.objs.size f cdv)) → sp vs H Q E →
      ∃ t, PSs (cxOf (L2.CX P w) P w K mg base N qual scope f cdv A outer s H E) body t ∧ t { nx := fun _ H' => Q .non H', rt := Q } (start N vs) H) : FnOk P w K mg base (L2.CX P w) (k + 1) f fd ps sp := F.ok S len hbody
theorem fund_mk {st : Stmt} {oc : Value} {od an : Option Addr} {osl : Array (Option Value)} {kV doc pm cdv ct tc : Value} {td : Option Addr} {tn : Nat} {tsl : Array (Option Value)} {i : Int} {tk : Tok}
    (l : K.lookup f = some ⟨oc, od, .func (PySem.W.fnOf x qual (defArgs st) (defBody st) (defScope st) (.ref T) kV doc pm an cdv ct), osl⟩)
    (c : PySem.W.codeIn K cdv qual = true) (k : PySem.W.keepIn K (.ref f) = true) (t : K.lookup T = some ⟨tc, td, .seq #[.int i tk] tn, tsl⟩) : FunD K x qual (defArgs st) (defBody st) (defScope st) [V.int i] [] f (PySem.W.fnOf x qual (defArgs st) (defBody st) (defScope st) (.ref T) kV doc pm an cdv ct) :=
  ⟨⟨oc, od, _, kV, doc, pm, an, cdv, ct, osl, rfl, l, c, .inr ⟨by simp, T, _, [.int i tk], tn, rfl, t, rfl, .cons ⟨tk, rfl⟩ .nil⟩, .inl rfl⟩, k⟩
theorem FunD.pos2 (F : FunD K x qual params body scope [d] [] f fd)
    (h : ∀ (T : Addr) (kV doc pm : Value) (an : Option Addr) (cdv ct : Value) (us its : List Value), us.length = 2 → its.length = 1 →
      ∃ k, bindArgs (PySem.W.fnOf x qual params body scope (.ref T) kV doc pm an cdv ct) ⟨us, []⟩ = seqItems? (.ref T) >>= k ∧ k (some its.toArray) = pure ([a, b].zip (us ++ its.drop 1))) : Binds K fd [a, b] [] := by
  obtain ⟨ds, r, hb⟩ := F.binds1 (ps := [a, b]) 2 1 (by simp) rfl h
  cases r
  exact hb
theorem FunD.kw1 (F : FunD K x qual params body scope [d] [] f fd)
    (h : ∀ (T : Addr) (kV doc pm : Value) (an : Option Addr) (cdv ct : Value) (us its ws : List Value), us.length = 1 → its.length = 1 → ws.length = 1 →
      ∃ k, bindArgs (PySem.W.fnOf x qual params body scope (.ref T) kV doc pm an cdv ct) ⟨us, [b].zip ws⟩ = seqItems? (.ref T) >>= k ∧ k (some its.toArray) = pure ([a, b].zip (us ++ ws))) :
    KBn K fd [a, b] 1 [b] (fun us ws => us ++ ws) (fun vs zs => vs ++ zs) := by
  obtain ⟨oc, od, dV, kV, doc, pm, an, cdv, ct, osl, rfl, lk, hcd, hD, hK⟩ := F.ex
  rcases hD with ⟨e, _⟩ | ⟨_, T, o, its, m, rfl, lT, oT, rT⟩
  · cases e
  · refine ⟨fun s us ws X l1 l2 => ?_, fun r1 r2 => r1.append r2⟩
    obtain ⟨k, e1, e2⟩ := h T kV doc pm an cdv ct us its ws l1 rT.length.symm l2
    refine BindsTo.of_looks fun M => ?_
    rw [e1]
    exact looks_items X lT oT (.of_pure e2)
end
end L2
namespace Z
open PySem PySem.Spec PyProof.Rows L2
theorem y_callN {n m : Nat} {sp : Sp} {gV : List V → List V → List V} {E : XK} {t tk : TA} {σ : L2.St} {H : Hp} {Q : VK} (k : t σ H fun vs H1 => tk σ H1 fun zs H2 => vs.length = n ∧ zs.length = m ∧ sp (gV vs zs) H2 Q E) : tCallN n m sp gV E t tk σ H Q := k
def rAddBB : R2 := fun x y H Q => ∃ a b, x = .bl a ∧ y = .bl b ∧ Q (.int ((if a = true then (1 : Int) else 0) + (if b = true then (1 : Int) else 0))) H
theorem zop_addBB {X : Cx} : OpR X (binaryOp .Add) rAddBB := by
  intro pins s σ H x y v u Q I rx ry h
  obtain ⟨a, b, rfl, rfl, q⟩ := h
  cases rx
  cases ry
  exact add_bool ⟨.int _, H, I.tok _, ⟨_, rfl⟩, q⟩
theorem y_addBB {a b : Bool} {Q : VK} {H : Hp} (k : Q (.int ((if a = true then (1 : Int) else 0) + (if b = true then (1 : Int) else 0))) H) : rAddBB (.bl a) (.bl b) H Q := ⟨a, b, rfl, rfl, k⟩
end Z

/-! # as Ydfl's calls by name, where the def may let errors out -/
namespace L2
open PySem PySem.Spec PyProof.Rows
def tCallNS (n m : Nat) (sp : Sp) (gV : List V → List V → List V) (E : St → XK) (t tk : TA) : TE := fun σ H Q => t σ H fun vs H1 => tk σ H1 fun zs H2 => vs.length = n ∧ zs.length = m ∧ sp (gV vs zs) H2 Q (E σ)
section
variable {X : Cx} {CX : CXT} {k n : Nat} {f : Addr} {fd : FuncData} {ps ks : List Str} {sp : Sp} {E : St → XK} {x : Str} {p pos : Pos} {e : Expr} {es : List Expr} {kws : List Keyword} {t tk : TA} {g : List Value → List Value → List Value} {gV : List V → List V → List V}
theorem run_fnNS {pins : List (Addr × Obj)} {σ : St} {H : Hp} {s : Shared} {Q : VK} {us ws : List Value} {vs zs : List V} (F : FnOk X.prog X.w X.K X.mg X.base CX k f fd ps sp) (hr : Room k X.A) (hb : KBn X.K fd ps n ks g gV) (hx : PassesAt CX X σ (E σ))
    (I : Inv X pins σ H s) (r : Vals vs us) (rz : Vals zs ws) (l1 : vs.length = n) (l2 : zs.length = ks.length) (h : sp (gV vs zs) H Q (E σ)) : wpAny (model X.prog X.w) X.A (call (.ref f) us (ks.zip ws)) (EP X pins σ Q) X.xe s := by
  have r2 := hb.rel r rz
  refine wpAny_call (codeAny_mono (F.run X.A X.stack s H ⟨us, ks.zip ws⟩ (g us ws) (gV vs zs) Q (E σ) hr I.env0 (hb.to s us ws I.kIn (r.length.symm.trans l1) (rz.length.symm.trans l2)) r2 h) fun r s' hq => ?_)
  cases r with
  | error e => exact hx pins H s e s' I hq
  | ok fl =>
    cases fl with
    | ret u => exact I.after hq
    | next => exact False.elim hq
    | brk => exact False.elim hq
    | cont => exact False.elim hq
theorem pe_callNS (F : FnOk X.prog X.w X.K X.mg X.base CX k f fd ps sp) (hr : Room k X.A) (hg : Gl X x) (hm : X.mg x = some (.ref f)) (hk : PySem.W.keepIn X.K (.ref f) = true) (hb : KBn X.K fd ps n ks g gV) (hx : ∀ σ, PassesAt CX X σ (E σ))
    (ha : PA X (e :: es) t) (hkw : PK X kws tk) (hall : (backToKw pos (keywordEach kws X.env)).all (·.1.isSome) = true := by rfl) (hks : (backToKw pos (keywordEach kws X.env)).filterMap (·.1) = ks := by rfl)
    (hdb : (x == ("__debug__" : Str)) = false := by decide) (he : starEach (e :: es) X.env = (false, eval e X.env) :: starEach es X.env := by rfl)
    (hpl : ((backTo pos (starEach (e :: es) X.env)).any (·.1) || (backToKw pos (keywordEach kws X.env)).any (·.1.isNone)) = false := by rfl) :
    PE X (.Call (.Name x p) (e :: es) kws pos) (tCallNS n ks.length sp gV E t tk) := by
  refine ⟨fun pins s σ H Q I h => ?_⟩
  refine wpAny_Call_Name_kw (ld_glob I hg hm ?_ hdb)
  refine PySem.W.callWith_KW (h₀ := X.base) I.ok.mod.kin hk hall (thn (ha.run pos pins s σ H _ I h) fun us s1 ⟨vs, H1, I1, r, q⟩ => ?_) hpl he
  refine thn (hkw.run pos pins s1 σ H1 _ I1 q) fun ws s2 ⟨zs, H2, I2, rz, l1, l2, q2⟩ => ⟨I2.kIn, ?_⟩
  rw [hks]
  exact run_fnNS F hr hb (hx σ) I2 r rz l1 l2 q2
end
end L2
namespace Z
open PySem PySem.Spec PyProof.Rows L2
theorem y_callNS {n m : Nat} {sp : Sp} {gV : List V → List V → List V} {E : L2.St → XK} {t tk : TA} {σ : L2.St} {H : Hp} {Q : VK} (k : t σ H fun vs H1 => tk σ H1 fun zs H2 => vs.length = n ∧ zs.length = m ∧ sp (gV vs zs) H2 Q (E σ)) : tCallNS n m sp gV E t tk σ H Q := k
end Z

/-! # classes whose __init__ has a default (None); zip of data of any kind -/
namespace L2
open PySem PySem.Spec PyProof.Rows
section
variable {P : Program} {w : World} {K : PySem.W.Frag} {mg : Str → Option Value} {base : Heap} {x qual : Str} {params : Arguments} {body : List Stmt} {scope : Scope} {dvs : List V} {kws : List (Str × V)} {f T : Addr} {fd : FuncData} {d : V} {a b c : Str}
theorem fund_mkN {st : Stmt} {oc : Value} {od an : Option Addr} {osl : Array (Option Value)} {kV doc pm cdv ct tc : Value} {td : Option Addr} {tn : Nat} {tsl : Array (Option Value)}
    (l : K.lookup f = some ⟨oc, od, .func (PySem.W.fnOf x qual (defArgs st) (defBody st) (defScope st) (.ref T) kV doc pm an cdv ct), osl⟩)
    (c : PySem.W.codeIn K cdv qual = true) (k : PySem.W.keepIn K (.ref f) = true) (t : K.lookup T = some ⟨tc, td, .seq #[.none] tn, tsl⟩) : FunD K x qual (defArgs st) (defBody st) (defScope st) [V.non] [] f (PySem.W.fnOf x qual (defArgs st) (defBody st) (defScope st) (.ref T) kV doc pm an cdv ct) :=
  ⟨⟨oc, od, _, kV, doc, pm, an, cdv, ct, osl, rfl, l, c, .inr ⟨by simp, T, _, [.none], tn, rfl, t, rfl, .cons rfl .nil⟩, .inl rfl⟩, k⟩
theorem FunD.posN {ps : List Str} (n : Nat) (hn : ps.length = n) (F : FunD K x qual params body scope [d] [] f fd)
    (h : ∀ (T : Addr) (kV doc pm : Value) (an : Option Addr) (cdv ct : Value) (us its : List Value), us.length = n → its.length = 1 →
      ∃ k, bindArgs (PySem.W.fnOf x qual params body scope (.ref T) kV doc pm an cdv ct) ⟨us, []⟩ = seqItems? (.ref T) >>= k ∧ k (some its.toArray) = pure (ps.zip (us ++ its.drop 1))) : Binds K fd ps [] := by
  obtain ⟨ds, r, hb⟩ := F.binds1 (ps := ps) n 1 (by simp) (by simp [hn]) h
  cases r
  exact hb
theorem FunD.dflN {ps : List Str} (n : Nat) (hn : ps.length = n + 1) (F : FunD K x qual params body scope [V.non] [] f fd)
    (h : ∀ (T : Addr) (kV doc pm : Value) (an : Option Addr) (cdv ct : Value) (us its : List Value), us.length = n → its.length = 1 →
      ∃ k, bindArgs (PySem.W.fnOf x qual params body scope (.ref T) kV doc pm an cdv ct) ⟨us, []⟩ = seqItems? (.ref T) >>= k ∧ k (some its.toArray) = pure (ps.zip (us ++ its.drop 0))) : Binds K fd ps [Value.none] := by
  obtain ⟨ds, r, hb⟩ := F.binds1 (ps := ps) n 0 (by simp) (by simp [hn]) h
  have : ds = [Value.none] := by
    cases r with
    | cons h t =>
      cases t
      cases h
      rfl
  rw [this] at hb
  exact hb
theorem FunD.kwN {ps : List Str} {b : Str} (n : Nat) (F : FunD K x qual params body scope [d] [] f fd)
    (h : ∀ (T : Addr) (kV doc pm : Value) (an : Option Addr) (cdv ct : Value) (us its ws : List Value), us.length = n → its.length = 1 → ws.length = 1 →
      ∃ k, bindArgs (PySem.W.fnOf x qual params body scope (.ref T) kV doc pm an cdv ct) ⟨us, [b].zip ws⟩ = seqItems? (.ref T) >>= k ∧ k (some its.toArray) = pure (ps.zip (us ++ ws))) :
    KBn K fd ps n [b] (fun us ws => us ++ ws) (fun vs zs => vs ++ zs) := by
  obtain ⟨oc, od, dV, kV, doc, pm, an, cdv, ct, osl, rfl, lk, hcd, hD, hK⟩ := F.ex
  rcases hD with ⟨e, _⟩ | ⟨_, T, o, its, m, rfl, lT, oT, rT⟩
  · cases e
  · refine ⟨fun s us ws X l1 l2 => ?_, fun r1 r2 => r1.append r2⟩
    obtain ⟨k, e1, e2⟩ := h T kV doc pm an cdv ct us its ws l1 rT.length.symm l2
    refine BindsTo.of_looks fun M => ?_
    rw [e1]
    exact looks_items X lT oT (.of_pure e2)
end
end L2
namespace Z
open PySem PySem.Spec PyProof.Rows L2
def tMakeSd (C : Addr) (sp : Sp) (dvs : List V) (E : L2.St → XK) (t : TA) : TE := fun σ H Q => t σ H fun vs H1 => MkK C (fun x H2 => sp (x :: (vs ++ dvs)) H2 (fun v H3 => v = .non ∧ Q x H3) (E σ)) H1
def tMakeNS (C : Addr) (sp : Sp) (E : L2.St → XK) (t tk : TA) (n m : Nat) : TE := fun σ H Q => t σ H fun vs H1 => tk σ H1 fun zs H2 => vs.length = n ∧ zs.length = m ∧ MkK C (fun x H3 => sp (x :: (vs ++ zs)) H3 (fun v H4 => v = .non ∧ Q x H4) (E σ)) H2
section
variable {X : Cx} {CX : CXT} {k n : Nat} {f C : Addr} {fd : FuncData} {ps ks : List Str} {sp : Sp} {E : L2.St → XK} {x m : Str} {p pos apos : Pos} {e o : Expr} {es : List Expr} {kws : List Keyword} {ta : TE} {t tk : TA} {ds : List Value} {dvs : List V}
theorem run_makeSd {pins : List (Addr × Obj)} {σ : L2.St} {H : Hp} {s : Shared} {Q : VK} {us : List Value} {vs : List V} (M : Mk X.K C f) (F : FnOk X.prog X.w X.K X.mg X.base CX k f fd ps sp) (hr : Room (k + 1) X.A) (hb : Binds X.K fd ps ds) (hd : Vals dvs ds)
    (hx : PassesAt CX X σ (E σ)) (I : Inv X pins σ H s) (r : Vals vs us) (h : MkK C (fun x H2 => sp (x :: (vs ++ dvs)) H2 (fun v H3 => v = .non ∧ Q x H3) (E σ)) H) :
    wpAny (model X.prog X.w) X.A (call (.ref C) us) (EP X pins σ Q) X.xe s := by
  have hq := h (s.heap.objs.size + 1) s.heap.objs.size (I.hok.fresh (Nat.le_succ _)) (I.hok.fresh (Nat.le_refl _)) (Nat.ne_of_lt (Nat.lt_succ_self _))
  have I2 := Inv.made (C := C) I
  have r2 : Vals (V.ref (s.heap.objs.size + 1) :: (vs ++ dvs)) (Value.ref (s.heap.objs.size + 1) :: us ++ ds) := .cons rfl (r.append hd)
  have hl : (Value.ref (s.heap.objs.size + 1) :: us ++ ds).length = ps.length := by
    have e := r2.length
    rw [F.len _ _ _ _ hq] at e
    exact e.symm
  have hb' := hb _ (Value.ref (s.heap.objs.size + 1) :: us) I2.kIn hl
  refine wpAny_call (make_map (f := f) I.kIn M.makes M.init (beq_iff_eq.mp M.fn) (codeAny_mono (F.run _ X.stack _ _ ⟨Value.ref (s.heap.objs.size + 1) :: us, []⟩ (Value.ref (s.heap.objs.size + 1) :: us ++ ds) _ _ (E σ) (hr.make C us [])
    (I2.env0.make C us []) hb' r2 hq) fun r s' hq' => ?_))
  cases r with
  | error e => exact hx pins _ _ e s' I2 hq'
  | ok fl =>
    cases fl with
    | ret u =>
      obtain ⟨v, H', I3, rv, ev, q3⟩ := I2.after hq'
      subst ev
      exact ⟨rv, ⟨V.ref (s.heap.objs.size + 1), H', I3, rfl, q3⟩⟩
    | next => exact False.elim hq'
    | brk => exact False.elim hq'
    | cont => exact False.elim hq'
theorem pe_makeSd (M : Mk X.K C f) (F : FnOk X.prog X.w X.K X.mg X.base CX k f fd ps sp) (hr : Room (k + 1) X.A) (hg : Gl X x) (hm : X.mg x = some (.ref C)) (hb : Binds X.K fd ps ds) (hd : Vals dvs ds) (hx : ∀ σ, PassesAt CX X σ (E σ))
    (ha : PA X (e :: es) t) (hdb : (x == ("__debug__" : Str)) = false := by decide) (he : starEach (e :: es) X.env = (false, eval e X.env) :: starEach es X.env := by rfl) (hpl : (backTo pos (starEach es X.env)).any (·.1) = false := by rfl) :
    PE X (.Call (.Name x p) (e :: es) [] pos) (tMakeSd C sp dvs E t) := by
  refine ⟨fun pins s σ H Q I h => ?_⟩
  refine wpAny_Call_Name_kw (ld_glob I hg hm ?_ hdb)
  refine PySem.W.callWith_K (h₀ := X.base) I.ok.mod.kin M.kp (thn (ha.run pos pins s σ H _ I h) fun us s1 ⟨vs, H1, I1, r, q⟩ => ⟨I1.kIn, ?_⟩) he hpl
  exact run_makeSd M F hr hb hd (hx σ) I1 r q
theorem run_makeNS {pins : List (Addr × Obj)} {σ : L2.St} {H : Hp} {s : Shared} {Q : VK} {us ws : List Value} {vs zs : List V} (M : Mk X.K C f) (F : FnOk X.prog X.w X.K X.mg X.base CX k f fd ps sp) (hr : Room (k + 1) X.A) (hb : KBn X.K fd ps (n + 1) ks (fun us ws => us ++ ws) (fun vs zs => vs ++ zs))
    (hx : PassesAt CX X σ (E σ)) (I : Inv X pins σ H s) (r : Vals vs us) (rz : Vals zs ws) (l1 : vs.length = n) (l2 : zs.length = ks.length) (h : MkK C (fun x H3 => sp (x :: (vs ++ zs)) H3 (fun v H4 => v = .non ∧ Q x H4) (E σ)) H) :
    wpAny (model X.prog X.w) X.A (call (.ref C) us (ks.zip ws)) (EP X pins σ Q) X.xe s := by
  have hq := h (s.heap.objs.size + 1) s.heap.objs.size (I.hok.fresh (Nat.le_succ _)) (I.hok.fresh (Nat.le_refl _)) (Nat.ne_of_lt (Nat.lt_succ_self _))
  have I2 := Inv.made (C := C) I
  have r1 : Vals (V.ref (s.heap.objs.size + 1) :: vs) (Value.ref (s.heap.objs.size + 1) :: us) := .cons rfl r
  have r2 := hb.rel r1 rz
  have e1 : (Value.ref (s.heap.objs.size + 1) :: us).length = n + 1 := r1.length.symm.trans (congrArg Nat.succ l1)
  have e2 : ws.length = ks.length := rz.length.symm.trans l2
  refine wpAny_call (make_map (f := f) I.kIn M.makes M.init (beq_iff_eq.mp M.fn) (codeAny_mono (F.run _ X.stack _ _ ⟨Value.ref (s.heap.objs.size + 1) :: us, ks.zip ws⟩ ((Value.ref (s.heap.objs.size + 1) :: us) ++ ws) _ _ (E σ) (hr.make C us (ks.zip ws))
    (I2.env0.make C us (ks.zip ws)) (hb.to _ (Value.ref (s.heap.objs.size + 1) :: us) ws I2.kIn e1 e2) r2 hq) fun r s' hq' => ?_))
  cases r with
  | error e => exact hx pins _ _ e s' I2 hq'
  | ok fl =>
    cases fl with
    | ret u =>
      obtain ⟨v, H', I3, rv, ev, q3⟩ := I2.after hq'
      subst ev
      exact ⟨rv, ⟨V.ref (s.heap.objs.size + 1), H', I3, rfl, q3⟩⟩
    | next => exact False.elim hq'
    | brk => exact False.elim hq'
    | cont => exact False.elim hq'
theorem pe_makeNS (M : Mk X.K C f) (F : FnOk X.prog X.w X.K X.mg X.base CX k f fd ps sp) (hr : Room (k + 1) X.A) (hg : Gl X x) (hm : X.mg x = some (.ref C)) (hb : KBn X.K fd ps (n + 1) ks (fun us ws => us ++ ws) (fun vs zs => vs ++ zs)) (hx : ∀ σ, PassesAt CX X σ (E σ))
    (ha : PA X (e :: es) t) (hkw : PK X kws tk) (hall : (backToKw pos (keywordEach kws X.env)).all (·.1.isSome) = true := by rfl) (hks : (backToKw pos (keywordEach kws X.env)).filterMap (·.1) = ks := by rfl)
    (hdb : (x == ("__debug__" : Str)) = false := by decide) (he : starEach (e :: es) X.env = (false, eval e X.env) :: starEach es X.env := by rfl)
    (hpl : ((backTo pos (starEach (e :: es) X.env)).any (·.1) || (backToKw pos (keywordEach kws X.env)).any (·.1.isNone)) = false := by rfl) :
    PE X (.Call (.Name x p) (e :: es) kws pos) (tMakeNS C sp E t tk n ks.length) := by
  refine ⟨fun pins s σ H Q I h => ?_⟩
  refine wpAny_Call_Name_kw (ld_glob I hg hm ?_ hdb)
  refine PySem.W.callWith_KW (h₀ := X.base) I.ok.mod.kin M.kp hall (thn (ha.run pos pins s σ H _ I h) fun us s1 ⟨vs, H1, I1, r, q⟩ => ?_) hpl he
  refine thn (hkw.run pos pins s1 σ H1 _ I1 q) fun ws s2 ⟨zs, H2, I2, rz, l1, l2, q2⟩ => ⟨I2.kIn, ?_⟩
  rw [hks]
  exact run_makeNS M F hr hb (hx σ) I2 r rz l1 l2 q2
end
section
variable {K : PySem.W.Frag} {H Ho : Hp} {rs : Grp} {v u : V} {Q : VK} {σ : L2.St} {C : Addr} {sp : Sp} {E : L2.St → XK} {t tk ts : TA} {dvs : List V} {n m : Nat} {R : It → Hp → Prop}
theorem y_makeD (k : t σ H fun vs H1 => MkK C (fun x H2 => sp (x :: (vs ++ dvs)) H2 (fun v H3 => v = .non ∧ Q x H3) (E σ)) H1) : tMakeSd C sp dvs E t σ H Q := k
theorem y_makeN (k : t σ H fun vs H1 => tk σ H1 fun zs H2 => vs.length = n ∧ zs.length = m ∧ MkK C (fun x H3 => sp (x :: (vs ++ zs)) H3 (fun v H4 => v = .non ∧ Q x H4) (E σ)) H2) : tMakeNS C sp E t tk n m σ H Q := k
/-! zip of two lists or two tuples of any kind -/
def pyZip : PyData → PyData → Option (List (PyData × PyData))
  | .list xs, .list ys => some (xs.zip ys)
  | .tuple xs, .tuple ys => some (xs.zip ys)
  | _, _ => none
def SrcZA (K : PySem.W.Frag) (R : It → Hp → Prop) (vs : List V) (H : Hp) : Prop := ∃ a b xs ys, vs = [.ref a, .ref b] ∧ ((SqL K H a xs ∧ SqL K H b ys ∧ R (Itz K a b) H) ∨ (SqT K H a xs ∧ SqT K H b ys ∧ R (RZ.ItzT K a b) H))
theorem k_iZipA (k : ts σ H fun vs H1 => SrcZA K R vs H1) : RZ.iZipA K ts σ H R := k
theorem zpi_zipA {X : Cx} {e e2 : Expr} {ta : TA} {p pos tpos : Pos} {elts : List Expr} {kk : Nat} (hK : X.K = K) (hg : Gl X "zip") (hm : X.mg "zip" = none) (ha : PA X [e, e2] ta)
    (hs : starEach [e, e2] X.env = (false, eval e X.env) :: starEach [e2] X.env := by rfl) (hpl : (backTo pos (starEach [e2] X.env)).any (·.1) = false := by rfl) :
    PI X (.Tuple elts kk tpos) (.Call (.Name "zip" p) [e, e2] [] pos) (RZ.iZipA K ta) := hK ▸ RZ.pi_zipA hg hm ha hs hpl
theorem trn_zipT {a b : Addr} {xs ys : List V} {ds es : List PyData} (ha : Ho a = some (.tup xs)) (hb : Ho b = some (.tup ys)) (da : DqAll K Ho xs ds) (db : DqAll K Ho ys es) : Trn K [] (RZ.ItzT K a b) (ds.zip es) Ho := by
  intro i rs' H' Ho' e z sub
  have sa : SqT K H' a xs := SqT.of (z.le _ _ (e _ _ ha))
  have sb : SqT K H' b ys := SqT.of (z.le _ _ (e _ _ hb))
  refine ⟨fun p hp => ?_, fun hl => ⟨xs, ys, sa, sb, ?_⟩⟩
  · obtain ⟨hx, hy⟩ := List.getElem?_zip_eq_some.mp hp
    obtain ⟨x, ex, dx⟩ := dpAll_get da hx
    obtain ⟨y, ey, dy⟩ := dpAll_get db hy
    refine ⟨⟨xs, ys, x, y, sa, sb, ex, ey⟩, fun t H'' yy => ?_⟩
    obtain ⟨T, x', y', rfl, hT, rfl, qx, qy⟩ := yy
    have e1 : x' = x := Option.some.inj ((qx _ sa).symm.trans ex)
    have e2 : y' = y := Option.some.inj ((qy _ sb).symm.trans ey)
    subst e1 e2
    have e3 : Same Ho' (upd Ho' T (.tup [x', y'])) := Same.new (z.free hT)
    exact ⟨_, e3, fun _ z => z.alloc hT, .tup upd_same (.cons (dp_mono e3 _ _ (dp_mono e _ _ dx)) (.cons (dp_mono e3 _ _ (dp_mono e _ _ dy)) .nil))⟩
  · rw [List.length_zip] at hl
    rw [dpAll_len da, dpAll_len db]
    omega
theorem py_list {xs : List PyData} (d : Z.D K Ho v (PyData.list xs)) : Z.D K Ho v xs := by
  have e : toPy xs = PyData.list xs := by
    show PyData.list (xs.map id) = _
    rw [List.map_id]
  show Dq K Ho v (toPy xs)
  rw [e]
  exact d
theorem k_srcZA {x y : PyData} {γ : Type} {f : List (PyData × PyData) → W γ} {Φ : γ → Prop} (d : Z.D K Ho v x) (d' : Z.D K Ho u y) (z : Zs rs H Ho) (hw : (W.bind (W.opt (pyZip x y)) f).run Φ) (k : ∀ J ps, Trn K [] J ps Ho → (f ps).run Φ → R J H) : SrcZA K R [v, u] H := by
  obtain ⟨ps, e, hw⟩ := hw
  unfold pyZip at e
  split at e
  · rename_i xs ys
    cases e
    have h1 : LV K [] Ho v xs := LV.of (py_list d)
    have h2 : LV K [] Ho u ys := LV.of (py_list d')
    obtain ⟨a, vs, rfl, d1, s1⟩ := id h1
    obtain ⟨b, us, rfl, d2, s2⟩ := id h2
    exact ⟨a, b, vs, us, rfl, .inl ⟨src_stay s1 (Same.refl _) z (fun r h => nomatch h), src_stay s2 (Same.refl _) z (fun r h => nomatch h), k _ _ (trn_zip h1 rfl h2 rfl) hw⟩⟩
  · rename_i xs ys
    cases e
    have d : Dq K Ho v (.tuple xs) := d
    have d' : Dq K Ho u (.tuple ys) := d'
    cases d with
    | tup ha da =>
      cases d' with
      | tup hb db =>
        exact ⟨_, _, _, _, rfl, .inr ⟨SqT.of (z.le _ _ ha), SqT.of (z.le _ _ hb), k _ _ (trn_zipT ha hb da db) hw⟩⟩
  · cases e
end
end Z

/-! # defs whose last argument (None) is left out -/
namespace Z
open PySem PySem.Spec PyProof.Rows L2
section
variable {σ : L2.St} {H : Hp} {Q : VK}
theorem y_callDv {sp : Sp} {E : XK} {dvs : List V} {ts : TA} (k : ts σ H fun vs H1 => sp (vs ++ dvs) H1 Q E) : tCall sp dvs E ts σ H Q := k
theorem y_callSDv {sp : Sp} {E : L2.St → XK} {dvs : List V} {ts : TA} (k : ts σ H fun vs H1 => sp (vs ++ dvs) H1 Q (E σ)) : tCallSD sp dvs E ts σ H Q := k
end
end Z

/-! # a list of which no item is None -/
namespace Z
open PySem PySem.Spec PyProof.Rows L2
def getAll {α : Type} : List (Option α) → Option (List α)
  | [] => some []
  | o :: os => match o, getAll os with
    | some a, some as => some (a :: as)
    | _, _ => none
theorem getAll_map {α : Type} : ∀ {os : List (Option α)} {xs : List α}, getAll os = some xs → os = xs.map some
  | [], xs, h => by cases h; rfl
  | o :: os, xs, h => by
    unfold getAll at h
    cases o with
    | none => cases h
    | some a =>
      cases e : getAll os with
      | none => rw [e] at h; cases h
      | some as =>
        rw [e] at h
        cases h
        rw [getAll_map e]
        rfl
section
variable {K : PySem.W.Frag} {H Ho : Hp} {α γ : Type} [Py α] {Φ : γ → Prop} {v : V}
theorem y_getAll {os : List (Option α)} {f : List α → W γ} {P : Prop} (d : Z.D K Ho v os) (hw : (W.bind (W.opt (getAll os)) f).run Φ) (k : ∀ xs, Z.D K Ho v xs → (f xs).run Φ → P) : P := by
  obtain ⟨xs, e, hw⟩ := hw
  refine k xs ?_ hw
  rw [getAll_map e] at d
  have q : toPy (xs.map some : List (Option α)) = toPy xs := by
    show PyData.list ((xs.map some).map Py.toPy) = PyData.list (xs.map Py.toPy)
    rw [List.map_map]
    rfl
  show Dq K Ho v (toPy xs)
  rw [← q]
  exact d
theorem y_getTp {x : Tp (Option α)} {f : List α → W γ} {P : Prop} (d : Z.D K Ho v x) (hw : (W.bind (W.opt (getAll x.l)) f).run Φ) (k : ∀ xs, Z.D K Ho v (⟨xs⟩ : Tp α) → (f xs).run Φ → P) : P := by
  obtain ⟨xs, e, hw⟩ := hw
  obtain ⟨l⟩ := x
  dsimp only at e
  refine k xs ?_ hw
  rw [getAll_map e] at d
  have q : toPy (⟨xs.map some⟩ : Tp (Option α)) = toPy (⟨xs⟩ : Tp α) := by
    show PyData.tuple ((xs.map some).map Py.toPy) = PyData.tuple (xs.map Py.toPy)
    rw [List.map_map]
    rfl
  show Dq K Ho v (toPy (⟨xs⟩ : Tp α))
  rw [← q]
  exact d
end
end Z

/-! # a parameter that is None or a list that is lent -/
namespace Z
open PySem PySem.Spec PyProof.Rows L2
section
variable {K : PySem.W.Frag} {H Ho Ho' : Hp} {rs rs' : List (Addr × HO)} {α : Type} [Py α] {v : V}
def OVq (K : PySem.W.Frag) (rs : List (Addr × HO)) (Ho : Hp) (v : V) (x : Option (List α)) : Prop := match x with
  | none => v = .non
  | some xs => LV K rs Ho v xs
theorem OVq.non : OVq K rs Ho .non (none : Option (List α)) := rfl
theorem OVq.some {xs : List α} (h : LV K rs Ho v xs) : OVq K rs Ho v (some xs) := h
theorem OVq.mo {x : Option (List α)} (h : OVq K rs Ho v x) (e : Same Ho Ho') : OVq K rs Ho' v x := by
  cases x with
  | none => exact h
  | some xs => exact LV.mo h e
theorem OVq.sub {x : Option (List α)} (h : OVq K rs Ho v x) (e : ∀ r ∈ rs, r ∈ rs') : OVq K rs' Ho v x := by
  cases x with
  | none => exact h
  | some xs => exact LV.sub h e
theorem OVq.ofD {x : Option (List α)} (d : Z.D K Ho v x) : OVq K rs Ho v x := by
  cases x with
  | none =>
    have d : Dq K Ho v .none := d
    cases d; rfl
  | some xs => exact LV.of d
theorem OVq.rd {x : Option (List α)} (h : OVq K rs Ho v x) (z : Zs rs' H Ho) (m : ∀ r ∈ rs, r ∈ rs') : Z.D K H v x := by
  cases x with
  | none =>
    cases (show v = .non from h)
    exact Dq.non
  | some xs =>
    obtain ⟨p, vs, rfl, d, s⟩ := LV.rd (LV.sub h m) z
    exact Dq.lst s (DL.mo d z.le)
theorem k_lstO {β : Type} {P : OwnPred β} {R : Grp} {Q : VK} {vs : List V} {xs : List β} {gs : List Grp} (r : RowO (P K Ho) vs xs gs) (z : Zs (gs.flatten ++ R) H Ho) (hl : vs.length ≤ sizeLine) (k : ∀ p g H', Zs (g ++ R) H' Ho → OLo P K Ho (.ref p) xs g → Q (.ref p) H') : LstK Q vs H :=
  ⟨hl, fun p hp => k p _ _ (z.root hp) ⟨p, vs, gs, rfl, r, rfl⟩⟩
end
section
variable {H : Hp} {σ : L2.St} {D : Ends} {u : TS} {ta : TA} {i j l : Nat} {a b c : V}
def Par3 (G : V → V → V → Prop) (vs : List V) : Prop := ∃ a b c, vs = [a, b, c] ∧ G a b c
/-- a, b, c = x, y, z -/
theorem l_p3 (σ' : V → V → V → L2.St) (hσ : ∀ a b c, ((σ.set i (some a)).set j (some b)).set l (some c) = σ' a b c) (k : ta σ H fun vs H1 => Par3 (fun a b c => u D (σ' a b c) H1) vs) : tSeq (tPar3 i j l ta) u D σ H := by
  have e : (fun vs H1 => Par3 (fun a b c => u D (σ' a b c) H1) vs) = fun vs H1 => ∃ a b c, vs = [a, b, c] ∧ u D (((σ.set i (some a)).set j (some b)).set l (some c)) H1 := by
    funext vs H1
    unfold Par3
    simp only [hσ]
  rw [e] at k
  exact k
theorem l_p3k {G : V → V → V → Prop} (k : LetV (fun a => LetV (fun b => LetV (fun c => G a b c) c) b) a) : Par3 G [a, b, c] := ⟨a, b, c, rfl, k⟩
end
end Z

/-! # sorted(d) and sum(d.values()), d's keys tuples of ints; an item of one's own out of a display -/
namespace Z
open PySem PySem.Spec PyProof.Rows L2
/-- sorted(d), d's keys tuples of n ints each -/
def rSortDT (K : PySem.W.Frag) : List V → Hp → VK → Prop := fun vs H Q => ∃ (a : Addr) (kvs : List (List L2.Key × V)) (d : Nat), vs = [V.ref a] ∧ H a = some (.dT kvs) ∧ 1 ≤ d ∧ (∀ x ∈ kvs, ∃ is : List Int, x.1 = is.map Sum.inl ∧ is.length = d) ∧
  ∀ (bs : List Addr) (ys : List V) (p : Addr), IsKeys H kvs bs → ys.Perm (bs.map V.ref) → H p = none → Q (.ref p) (upd H p (.lst ys))
theorem zsortDT {X : Cx} {K : PySem.W.Frag} (hc : X.calm = true) : CallR X (.builtin "sorted") (rSortDT K) := by
  intro pins s σ H vs us Q I r h
  obtain ⟨a, kvs, d, rfl, hd, h1, hk, q⟩ := h
  obtain ⟨u, rfl, rx⟩ := r.one
  cases rx
  obtain ⟨z, hs, ks, pr, o, es, ep, ho, hx, hdt, he, hn⟩ := (show ObjOk X.prog X.w H s.heap a (.dT kvs) from I.hok a _ hd)
  have l1 : es.size = ks.length := size_of_entries he
  have l2 : kvs.length = ks.length := Paired.length pr
  refine Calls.call_function_entry kind_sorted plain_sorted entry_sorted (args_sorted1 _) ?_
  unfold Builtin.«sorted»
  refine wpAny_bind (m := checkCount "sorted" 1 1 _) (wpAny_pure ?_)
  refine wpAny_bind (PySem.W.kdu_collect (A := X.A.in1) (kdl_raw hs hx hdt) (I.ok.hd hc) ho (by omega) fun h' tk acc kp it => ?_)
  have ea : acc.toList = (ks.map fun x => x.2.1).map Value.ref := by
    have hl : acc.toList.length = ks.length := by rw [Array.length_toList, it.1]; exact l1
    rw [List.map_map]
    apply List.ext_getElem?
    intro j
    rw [List.getElem?_map]
    cases hj : acc.toList[j]? with
    | none =>
      have h1 := List.getElem?_eq_none_iff.mp hj
      rw [List.getElem?_eq_none (by omega)]
      rfl
    | some v =>
      obtain ⟨en, hen, hv⟩ := it.2 j v (by rw [← Array.getElem?_toList]; exact hj)
      have qe := entry_at he j
      rw [hen] at qe
      cases hb : ks[j]? with
      | none =>
        rw [hb] at qe
        exact nomatch (show some en = none from qe)
      | some b =>
        rw [hb] at qe
        have e2 : en = entryOfKey (tupleKind (mixKind X.prog X.w)) b := Option.some.inj qe
        rw [hv, e2]
        rfl
  -- the keys' tuples
  have raw : ∀ v ∈ acc.toList, TS.TupInts s.heap v (TS.intsOf s.heap v) ∧ (TS.intsOf s.heap v).length = d := by
    intro v hv
    rw [ea] at hv
    obtain ⟨b, hb, rfl⟩ := List.mem_map.mp hv
    obtain ⟨x, hx, rfl⟩ := List.mem_map.mp hb
    have key : ∀ {l : List (List L2.Key × V)} {m : List (List L2.Key × Addr × Value)}, Paired (fun (p : List L2.Key × V) (q : List L2.Key × Addr × Value) => p.1 = q.1 ∧ H q.2.1 = some (.tup (p.1.map kV)) ∧ RelV p.2 q.2.2) l m → ∀ y ∈ m, ∃ p ∈ l, H y.2.1 = some (.tup (p.1.map kV)) := by
      intro l m hp
      induction hp with
      | nil => intro y hy; cases hy
      | cons h0 t ih =>
        intro y hy
        rcases List.mem_cons.mp hy with e | hy
        · subst e
          exact ⟨_, List.mem_cons_self, h0.2.1⟩
        · obtain ⟨p, hp, e⟩ := ih y hy
          exact ⟨p, List.mem_cons_of_mem _ hp, e⟩
    obtain ⟨p, hp, e⟩ := key pr x hx
    obtain ⟨is, ei, li⟩ := hk p hp
    rw [ei, keys_int] at e
    have q1 := tupI_raw I (SqT.of e)
    rw [q1.ints]
    exact ⟨q1, li⟩
  have hlen : acc.toList.length = ks.length := by rw [ea, List.length_map, List.length_map]
  refine wpAny_bind (wpAny_newList ?_ (by omega))
  have hoL : (h'.push { cls := .type "list", data := .seq acc.toList.toArray }).get? h'.objs.size = some (seqObj "list" acc.toList.toArray 0) := Heap.get?_push_size _ rfl
  have keep : ∀ b o, s.heap.get? b = some o → (h'.push { cls := .type "list", data := .seq acc.toList.toArray }).get? b = some o := fun b o e => Heap.get?_push_of_some _ (kp b o e)
  refine wpAny_bind (wpAny_holding (wpAny_call_entry slot_list_sort ⟨_, hoL, rfl⟩ entry_list_sort (SrtO.list_sort_ord (s := { s with heap := h'.push { cls := .type "list", data := .seq acc.toList.toArray }, toks := tk }) (ltv := fun v u => lexL (TS.intsOf s.heap v) (TS.intsOf s.heap u)) (swoL _) hoL (by omega) (fun h2 => ?_) fun out o1 o2 => ⟨_, rfl, ?_⟩) (args_list_sort _)))
  · refine tups_sortable (k := TS.intsOf s.heap) h1 (by omega) (fun v hm => ⟨(raw v hm).1.keeps fun c o e _ => keep c o e, (raw v hm).2⟩) fun o e => ?_
    have e' := e.symm.trans hoL
    cases e'
    exact fun c => absurd (Value.type.inj c) (by decide)
  · refine wpAny_pure ⟨_, rfl, ?_⟩
    have pm : out.Perm acc.toList := o2.perm
    have e2 : ∀ u ∈ out, ∃ b, u = Value.ref b := fun u hu => by
      have := pm.mem_iff.mp hu
      rw [ea] at this
      obtain ⟨b, _, e⟩ := List.mem_map.mp this
      exact ⟨b, e.symm⟩
    obtain ⟨n, hn2⟩ := PyProof.Rows.sortedHeap_at (out := out.toArray) hoL
    have ea2 : acc.toList.map bkV = (ks.map fun x => x.2.1).map V.ref := by
      rw [ea, List.map_map]
      rfl
    have hpm : (out.map bkV).Perm ((ks.map fun x => x.2.1).map V.ref) := by rw [← ea2]; exact pm.map _
    have hlt : ∀ b o, s.heap.get? b = some o → b < h'.objs.size := fun b o e => Heap.lt_size (kp b o e)
    have hfr : s.heap.get? h'.objs.size = none := by
      cases e : s.heap.get? h'.objs.size with
      | none => rfl
      | some o => exact absurd (hlt _ _ e) (Nat.lt_irrefl _)
    refine ⟨.ref h'.objs.size, upd H h'.objs.size (.lst (out.map bkV)), I.laidN (t' := tk) (fun b o e => ?_) hfr (I.hok.gone hfr) ⟨?_, out, n, bkV_vals e2, hn2⟩, rfl, q _ _ _ (isKeys_of pr) hpm (I.hok.gone hfr)⟩
    · rw [sortedHeap_old (Nat.ne_of_lt (hlt b o e)) (by rw [size_push']; exact Nat.lt_succ_of_lt (hlt b o e))]
      exact keep b o e
    · rw [hpm.length_eq, List.length_map, List.length_map]
      omega
/-- sum(d.values()), d's keys tuples, its values ints -/
def tSumDT (td : TE) : TE := fun σ H Q => td σ H fun x H1 => ∃ (a : Addr) (kvs : List (List L2.Key × V)) (is : List Int), x = V.ref a ∧ H1 a = some (.dT kvs) ∧ kvs.map (·.2) = is.map V.int ∧ Q (.int is.sum) H1
theorem preS (f : Nat → Int) : ∀ n : Nat, preSum f (n + 1) = f 0 + preSum (fun i => f (i + 1)) n
  | 0 => by simp [preSum]
  | n + 1 => by
    show preSum f (n + 1) + f (n + 1) = f 0 + (preSum (fun i => f (i + 1)) n + f (n + 1))
    rw [preS f n, Int.add_assoc]
theorem preSum_sum : ∀ is : List Int, preSum (fun i => is.getD i 0) is.length = is.sum
  | [] => rfl
  | i :: is => by
    have := preSum_sum is
    rw [List.length_cons, preS, List.sum_cons, ← this]
    rfl
section
variable {X : Cx} {o : Expr} {p pos apos mpos : Pos} {td : TE}
theorem pe_sumDT (hc : X.calm = true) (hg : Gl X "sum") (hm : X.mg "sum" = none) (hd : PE X o td) (hbase : attributeBase o "values" X.env (eval o X.env) = eval o X.env := by rfl) (hline : (apos.endLine == mpos.line) = true := by rfl)
    (hse : starEach [Expr.Call (.Attribute o "values" apos) [] [] mpos] X.env = [(false, eval (Expr.Call (.Attribute o "values" apos) [] [] mpos) X.env)] := by rfl) :
    PE X (.Call (.Name "sum" p) [.Call (.Attribute o "values" apos) [] [] mpos] [] pos) (tSumDT td) := by
  refine ⟨fun pins s σ H Q I h => ?_⟩
  refine wpAny_Call_Name_kw (ld_blt I hg hm (u := .builtin "sum") (by first | rfl | decide +kernel) ?_ (by first | decide +kernel | decide) (by first | decide +kernel | decide))
  rw [hse]
  refine PySem.callWith_builtin1 (wpAny_Call_method0_late hbase hline (thn (hd.run pins s σ H _ I h) fun v s1 ⟨x, H1, I1, r1, a, kvs, is, ex, ha, hv, q⟩ => ?_))
  subst ex
  obtain rfl : v = Value.ref a := r1
  obtain ⟨z, hs, ks, pr, o, es, ep, ho, hx, hdt, he, hn⟩ := (show ObjOk X.prog X.w H1 s1.heap a (.dT kvs) from I1.hok a _ ha)
  have l1 : es.size = ks.length := size_of_entries he
  have l2 : kvs.length = ks.length := Paired.length pr
  have l3 : kvs.length = is.length := by
    have e1 := congrArg List.length hv
    rw [List.length_map, List.length_map] at e1
    exact e1
  refine ⟨"dict", "dict.values", F.plainAttrs_dict, F.slot_dict_values, F.type_dict_values, ⟨o, ho, hx.1⟩, fun b e => ?_, Calls.callWith_builtin rfl (PySem.evalArgs_none ?_)⟩
  · cases e
    exact ⟨o, ho, hx.2.1⟩
  have dat : s1.heap.DictRaw a es ep := ⟨o, ho, hx, hdt⟩
  refine call_meetsIn F.slot_dict_values ⟨o, ho, hx.1⟩ F.entry_dict_values (F.args_dict_values_1 _) (PySem.meets_dict_values_raw a hs) ⟨⟨es, ep, dat⟩, ?_⟩
  have k1 : ∀ b u, s1.heap.get? b = some u → (s1.heap.push { cls := .type "dict_values", data := .fields #[.ref a] }).get? b = some u := fun b u e => Heap.get?_push_of_some _ e
  have dat1 : (s1.heap.push { cls := .type "dict_values", data := .fields #[.ref a] }).DictRaw a es ep := dat.at fun u e => k1 a u e
  have hval : ∀ (i : Nat) (v : Value), (∃ hi : i < es.size, v = es[i].val) → ∃ t, v = Value.int (is.getD i 0) t := fun i v ⟨hi, e⟩ => by
    have qe := entry_at he i
    rw [Array.getElem?_eq_getElem hi] at qe
    cases hb : ks[i]? with
    | none =>
      rw [hb] at qe
      exact nomatch (show some _ = none from qe)
    | some b =>
      rw [hb] at qe
      have e2 : es[i] = entryOfKey (tupleKind (mixKind X.prog X.w)) b := Option.some.inj qe
      have key : ∀ {l : List (List L2.Key × V)} {m : List (List L2.Key × Addr × Value)}, Paired (fun (p : List L2.Key × V) (q : List L2.Key × Addr × Value) => p.1 = q.1 ∧ H1 q.2.1 = some (.tup (p.1.map kV)) ∧ RelV p.2 q.2.2) l m → ∀ (j : Nat) y, m[j]? = some y → ∃ p, l[j]? = some p ∧ RelV p.2 y.2.2 := by
        intro l m hp
        induction hp with
        | nil => intro j y hy; simp at hy
        | cons h0 t ih =>
          intro j y hy
          cases j with
          | zero =>
            have := Option.some.inj (show some _ = some y from hy)
            subst this
            exact ⟨_, rfl, h0.2.2⟩
          | succ j =>
            obtain ⟨p, h1, h2⟩ := ih j y (by simpa using hy)
            exact ⟨p, by simpa using h1, h2⟩
      obtain ⟨p, h1, h2⟩ := key pr i b hb
      have e1 : (kvs.map (·.2))[i]? = some p.2 := by rw [List.getElem?_map, h1]; rfl
      rw [hv, List.getElem?_map] at e1
      obtain ⟨j, hj, e3⟩ := Option.map_eq_some_iff.mp e1
      rw [← e3] at h2
      obtain ⟨t, e4⟩ := h2
      refine ⟨t, ?_⟩
      rw [e, e2, List.getD_eq_getElem?_getD, hj]
      exact e4
  have hlt : a < s1.heap.objs.size := Heap.lt_size ho
  have hsz : (s1.heap.push { cls := .type "dict_values", data := .fields #[.ref a] }).objs.size = s1.heap.objs.size + 1 := Heap.size_push _ _
  refine call_sum_walkAnyS (PySem.wpAny_pyIter_values_raw (v := s1.heap.objs.size) (d := a) ⟨_, Heap.get?_push_size _ rfl, rfl, rfl⟩ dat1 ?_)
  refine ⟨_, _, _, _, _, _, _, fun i => is.getD i 0, rfl, (Walks.rawValues (A := X.A.in1) (I.ok.hd hc) (s1.heap.push { cls := .type "dict_values", data := .fields #[.ref a] }).objs.size a (by rw [hsz]; exact Nat.ne_of_lt (Nat.lt_succ_of_lt hlt)) es ep).toS,
    ⟨⟨_, Heap.get?_push_size _ rfl, rfl, rfl⟩, dat1.at fun u e => Heap.get?_push_of_some _ e⟩, fun b hb => ?_, hval, fun s' t' hm => ?_⟩
  · show b < ((s1.heap.push _).push _).objs.size
    rw [Heap.size_push, Heap.size_push]
    rw [hsz] at hb
    rcases List.mem_cons.mp hb with e | hb
    · rw [e]
      exact Nat.lt_succ_self _
    · have e : b = a := List.mem_singleton.mp hb
      rw [e]
      exact Nat.lt_succ_of_lt (Nat.lt_succ_of_lt hlt)
  · have hk : ∀ b o, s1.heap.get? b = some o → s'.heap.get? b = some o := fun b o e =>
      hm.heap b o (fun hI => absurd (Heap.lt_size (k1 b o e)) (by rw [List.mem_singleton.mp hI]; exact Nat.lt_irrefl _)) (Heap.get?_push_of_some _ (k1 b o e))
    have ev : preSum (fun i => is.getD i 0) es.size = is.sum := by
      rw [l1, ← l2, l3]
      exact preSum_sum is
    rw [Moved.eq_with hm, ev]
    exact ⟨.int is.sum, H1, I1.kept (t' := s'.toks) hk, ⟨t', rfl⟩, q⟩
end
/-- the last argument, a number by default, is left out -/
theorem _root_.L2.FunD.dflI {K : PySem.W.Frag} {x qual : Str} {params : Arguments} {body : List Stmt} {scope : Scope} {f : Addr} {fd : FuncData} {i : Int} {ps : List Str} (n : Nat) (hn : ps.length = n + 1) (F : FunD K x qual params body scope [V.int i] [] f fd)
    (h : ∀ (T : Addr) (kV doc pm : Value) (an : Option Addr) (cdv ct : Value) (us its : List Value), us.length = n → its.length = 1 →
      ∃ k, bindArgs (PySem.W.fnOf x qual params body scope (.ref T) kV doc pm an cdv ct) ⟨us, []⟩ = seqItems? (.ref T) >>= k ∧ k (some its.toArray) = pure (ps.zip (us ++ its.drop 0))) : ∃ t, Binds K fd ps [Value.int i t] := by
  obtain ⟨ds, r, hb⟩ := F.binds1 (ps := ps) n 0 (by simp) (by simp [hn]) h
  obtain ⟨t, e⟩ : ∃ t, ds = [Value.int i t] := by
    cases r with
    | cons h t =>
      cases t
      obtain ⟨t, e⟩ := h
      exact ⟨t, by rw [e]⟩
  rw [e] at hb
  exact ⟨t, hb⟩
/-! ### by data -/
section
variable {K : PySem.W.Frag} {H Ho H' Ho' : Hp} {R rs g g' : Grp} {v w u : V} {Q : VK} {σ : L2.St} {α β γ : Type} [Py α] {Φ : γ → Prop}
theorem Zs.good {q : Addr} {l : List V} (z : Zs R H Ho) (h : H q = some (.tup l)) : ∃ Ho', Same Ho Ho' ∧ Zs R H Ho' ∧ Ho' q = some (.tup l) := by
  refine ⟨upd Ho q (.tup l), fun b o' eb => ?_, ⟨fun b o' eb => ?_, fun r hr => ?_, z.nd, z.nt⟩, upd_same⟩
  · by_cases c : b = q
    · subst c
      have := z.le _ _ eb
      rw [h] at this
      cases this
      exact upd_same
    · rw [upd_ne c]; exact eb
  · by_cases c : b = q
    · subst c
      rw [upd_same] at eb
      rw [← eb]
      exact h
    · rw [upd_ne c] at eb
      exact z.le _ _ eb
  · obtain ⟨h1, h2⟩ := z.rt r hr
    have n2 : r.1 ≠ q := fun e => by
      rw [e, h] at h1
      have := z.nt r hr
      rw [← Option.some.inj h1] at this
      exact this
    rw [upd_ne n2]
    exact ⟨h1, h2⟩
theorem Zs.goods : ∀ {bs : List Addr} {ks : List (Tp Int)} {Ho : Hp}, Zs R H Ho → bs.length = ks.length → (∀ (i : Nat) b k, bs[i]? = some b → ks[i]? = some k → H b = some (.tup (k.l.map V.int))) → ∃ Ho', Same Ho Ho' ∧ Zs R H Ho' ∧ DL K Ho' (bs.map V.ref) ks
  | [], [], Ho, z, _, _ => ⟨Ho, Same.refl _, z, .nil⟩
  | b :: bs, k :: ks, Ho, z, hl, h => by
    obtain ⟨Ho1, e1, z1, h1⟩ := z.good (h 0 b k rfl rfl)
    obtain ⟨Ho2, e2, z2, d2⟩ := Zs.goods (bs := bs) (ks := ks) z1 (by simpa using hl) fun i b' k' hb hk => h (i + 1) b' k' (by simpa using hb) (by simpa using hk)
    exact ⟨Ho2, e1.trans e2, z2, .cons (at_tp (e2 _ _ h1)) d2⟩
/-- the keys in some order -/
def srtD (m : Dc (Tp Int) α) : W (List (Tp Int)) := ⟨fun Φ => (∃ d, 1 ≤ d ∧ ∀ x ∈ m, x.1.l.length = d) ∧ ∀ ys : List (Tp Int), ys.Perm (m.map fun x : Tp Int × α => x.1) → Φ ys, fun _ _ h q => ⟨q.1, fun ys hy => h ys (q.2 ys hy)⟩⟩
theorem dlp {us : List V} {vs : List V} (hp : us.Perm vs) : ∀ {xs : List (Tp Int)}, DL K H vs xs → ∃ ys, ys.Perm xs ∧ DL K H us ys := by
  induction hp with
  | nil => exact fun {xs} h => ⟨xs, List.Perm.refl _, h⟩
  | cons v _ ih =>
    intro xs h
    cases xs with
    | nil => cases h
    | cons x xs =>
      cases h with
      | cons h1 h2 =>
        obtain ⟨ys, p, q⟩ := ih h2
        exact ⟨x :: ys, p.cons x, .cons h1 q⟩
  | swap u v l =>
    intro xs h
    cases xs with
    | nil => cases h
    | cons x xs =>
      cases xs with
      | nil => cases h with | cons _ h2 => cases h2
      | cons y xs =>
        cases h with
        | cons h1 h2 =>
          cases h2 with
          | cons h2 h3 => exact ⟨y :: x :: xs, List.Perm.swap _ _ _, .cons h2 (.cons h1 h3)⟩
  | trans _ _ ih1 ih2 =>
    intro xs h
    obtain ⟨ys, p, q⟩ := ih2 h
    obtain ⟨zs, p2, q2⟩ := ih1 q
    exact ⟨zs, p2.trans p, q2⟩
theorem y_sortDT {m : Dc (Tp Int) α} {f : List (Tp Int) → W γ} (o : BD K R Ho v m) (z : Zs R H Ho) (hw : (W.bind (srtD m) f).run Φ) (k : ∀ ys H' Ho', Same Ho Ho' → (f ys).run Φ → ∀ p ws, Zs ((p, .lst ws) :: R) H' Ho' → DL K Ho' ws ys → Q (.ref p) H') : rSortDT K [v] H Q := by
  obtain ⟨g, ⟨p, kvs, rfl, d, rfl⟩, hg⟩ := o
  obtain ⟨⟨n, n1, hn⟩, hw⟩ := (show (∃ d, 1 ≤ d ∧ ∀ x ∈ m, x.1.l.length = d) ∧ ∀ ys : List (Tp Int), ys.Perm (m.map (·.1)) → (f ys).run Φ from hw)
  have hp : H p = some (.dT kvs) := (z.rt _ (hg _ List.mem_cons_self)).1
  have keyAt : ∀ (i : Nat) x, kvs[i]? = some x → ∃ a, m[i]? = some a ∧ x.1 = a.1.l.map Sum.inl := by
    intro i x hx
    have h1 : (kvs.map (·.1))[i]? = some x.1 := by rw [List.getElem?_map, hx]; rfl
    rw [d.1, List.getElem?_map] at h1
    obtain ⟨a, ha, e⟩ := Option.map_eq_some_iff.mp h1
    exact ⟨a, ha, e.symm⟩
  refine ⟨p, kvs, n, rfl, hp, n1, fun x hx => ?_, fun bs ys q hb hpm hq => ?_⟩
  · obtain ⟨i, hi⟩ := List.mem_iff_getElem?.mp hx
    obtain ⟨a, ha, e⟩ := keyAt i x hi
    exact ⟨a.1.l, e, hn a (List.mem_of_getElem? ha)⟩
  · have hlen : bs.length = kvs.length := (Paired.length hb).symm
    have at_ : ∀ (i : Nat) b x, bs[i]? = some b → kvs[i]? = some x → H b = some (.tup (x.1.map kV)) := by
      have key : ∀ {l : List (List L2.Key × V)} {m : List Addr}, Paired (fun p b => H b = some (.tup (p.1.map kV))) l m → ∀ (i : Nat) b x, m[i]? = some b → l[i]? = some x → H b = some (.tup (x.1.map kV)) := by
        intro l m hp
        induction hp with
        | nil => intro i b x hb; simp at hb
        | cons h0 t ih =>
          intro i b x hb hx
          cases i with
          | zero =>
            have e1 := Option.some.inj (show some _ = some b from hb)
            have e2 := Option.some.inj (show some _ = some x from hx)
            subst e1 e2
            exact h0
          | succ i => exact ih i b x (by simpa using hb) (by simpa using hx)
      exact key hb
    obtain ⟨Ho', e, z', dl⟩ := Zs.goods (K := K) (bs := bs) (ks := m.map (·.1)) z (by rw [hlen, d.len, List.length_map]) fun i b k hb hk => by
      have hi : i < kvs.length := by rw [← hlen]; exact (List.getElem?_eq_some_iff.mp hb).1
      obtain ⟨a, ha, ek⟩ := keyAt i _ (List.getElem?_eq_getElem hi)
      have := at_ i b _ hb (List.getElem?_eq_getElem hi)
      rw [ek, keys_int] at this
      rw [List.getElem?_map, ha] at hk
      cases hk
      exact this
    obtain ⟨xs, px, dx⟩ := dlp hpm dl
    exact k xs _ Ho' e (hw xs px) q ys (z'.root hq) dx
def SumK (Q : VK) (x : V) (H : Hp) : Prop := ∃ (a : Addr) (kvs : List (List L2.Key × V)) (is : List Int), x = V.ref a ∧ H a = some (.dT kvs) ∧ kvs.map (·.2) = is.map V.int ∧ Q (.int is.sum) H
theorem k_sumDT {td : TE} (k : td σ H fun x H1 => SumK Q x H1) : tSumDT td σ H Q := k
theorem y_sumDT {m : Dc (Tp Int) Int} (o : BD K R Ho v m) (z : Zs R H Ho) (k : Q (.int (m.map fun x => x.2).sum) H) : SumK Q v H := by
  obtain ⟨g, ⟨p, kvs, rfl, d, rfl⟩, hg⟩ := o
  exact ⟨p, kvs, m.map (·.2), rfl, (z.rt _ (hg _ List.mem_cons_self)).1, dl_ints d.2, k⟩
/-- an item of one's own out of a display -/
theorem y_ixOwn [Py β] {P : OwnPred β} {xs : List β} {i : Int} {f : β → W γ} (o : OLo P K Ho v xs g) (z : Zs (g ++ R) H Ho) (hw : (W.bind (W.opt (atI xs i)) f).run Φ) (k : ∀ x u gi gh, Zs (gi ++ (gh ++ R)) H Ho → P K Ho u x gi → (f x).run Φ → Q u H) : rIxL K v (.int i) H Q :=
  y_ixLo (R := g) (rs := g ++ R) ⟨g, o, fun _ h => h⟩ (fun r h => List.mem_append_left _ h) z hw fun x u el be _ => o_openE (R' := g) o z el (fun r h => List.mem_append_left _ h) hw fun x' gi gh _ z' _ px hw => k x' u gi gh z' px hw
end
end Z

/-! # Ym: what the computations promise, in plain Lean -/
namespace Z
open PySem L2
section
variable {α β γ S ρ : Type}
theorem run_bind {c : W α} {f : α → W β} {Φ : β → Prop} : (W.bind c f).run Φ = c.run fun a => (f a).run Φ := propext ⟨fun h => h, fun h => h⟩
theorem run_bind2 {c : W (α × β)} {f : α → β → W γ} {Φ : γ → Prop} : (W.bind2 c f).run Φ = c.run fun r => (f r.1 r.2).run Φ := propext ⟨fun h => h, fun h => h⟩
theorem run_rt {a : α} {Φ : α → Prop} : (W.ret a).run Φ = Φ a := propext ⟨fun h => h, fun h => h⟩
theorem run_guard {p : Prop} {c : W α} {Φ : α → Prop} : (W.guard p c).run Φ = (p ∧ c.run Φ) := propext ⟨fun h => h, fun h => h⟩
theorem run_opt {o : Option α} {Φ : α → Prop} : (W.opt o).run Φ = ∃ a, o = some a ∧ Φ a := propext ⟨fun h => h, fun h => h⟩
theorem run_ite {b : Bool} {x y : W α} {Φ : α → Prop} : (W.ite b x y).run Φ = ((b = true → x.run Φ) ∧ (b = false → y.run Φ)) := propext ⟨fun h => h, fun h => h⟩
theorem run_if {b : Bool} {x y : W α} {Φ : α → Prop} : (W.ite b x y).run Φ = (if b = true then x.run Φ else y.run Φ) := by
  rw [run_ite]; cases b <;> simp
theorem run_mono {c : W α} {Φ Φ' : α → Prop} (h : c.run Φ) (k : ∀ a, Φ a → Φ' a) : c.run Φ' := c.mono _ _ k h
theorem atI_some {xs : List α} {i : Int} (h0 : 0 ≤ i) (h : i < xs.length) : ∃ a, a ∈ xs ∧ atI xs i = some a := by
  obtain ⟨j, rfl⟩ : ∃ j : Nat, i = j := ⟨i.toNat, by omega⟩
  have hj : j < xs.length := by omega
  exact ⟨xs[j], List.getElem_mem hj, atI_nat (List.getElem?_eq_getElem hj)⟩
theorem atI_get' {xs : List α} {i : Int} {a : α} (h0 : 0 ≤ i) (h : xs[i.toNat]? = some a) : atI xs i = some a := by
  obtain ⟨j, rfl⟩ : ∃ j : Nat, i = j := ⟨i.toNat, by omega⟩
  exact atI_nat (by simpa using h)
theorem ixN_nat' {n : Nat} {i : Int} (h0 : 0 ≤ i) (h : i < n) : ixN n i = some i.toNat := by
  unfold ixN
  rw [if_pos h0, if_pos h]
theorem forL_wp (Inv : Nat → S → Prop) {xs : List α} {s : S} {f : α → S → W S} {Φ : S → Prop} (h0 : Inv 0 s) (step : ∀ i x s, xs[i]? = some x → Inv i s → (f x s).run (Inv (i + 1))) (k : ∀ s, Inv xs.length s → Φ s) : (W.forL xs s f).run Φ := by
  induction xs generalizing s Inv with
  | nil => exact k s h0
  | cons x xs ih =>
    show (f x s).run (fun s' => (W.forL xs s' f).run Φ)
    refine run_mono (step 0 x s rfl h0) fun s' h' => ?_
    exact ih (fun i => Inv (i + 1)) h' (fun i y s hy hi => step (i + 1) y s (by simpa using hy) hi) fun s hs => k s hs
theorem forC_wp (Inv : Nat → S → Prop) {xs : List α} {s : S} {f : α → S → W (Ctl ρ S)} {Φ : Ctl ρ S → Prop} (h0 : Inv 0 s)
    (step : ∀ i x s, xs[i]? = some x → Inv i s → (f x s).run (CtlP (Inv (i + 1)) (fun s => Φ (.nx s)) (fun r => Φ (.rt r)))) (k : ∀ s, Inv xs.length s → Φ (.nx s)) : (W.forC xs s f).run Φ := by
  induction xs generalizing s Inv with
  | nil => exact k s h0
  | cons x xs ih =>
    show (W.bind (f x s) _).run Φ
    rw [run_bind]
    refine run_mono (step 0 x s rfl h0) fun c hc => ?_
    cases c with
    | nx s' => exact ih (fun i => Inv (i + 1)) hc (fun i y s hy hi => step (i + 1) y s (by simpa using hy) hi) fun s hs => k s hs
    | bk s' => exact hc
    | rt r => exact hc
theorem comp_wp {xs : List α} {acc : List β} {ct : α → W Bool} {cf : α → W β} (t : α → Bool) (f : α → β) {Φ : List β → Prop} (ht : ∀ x ∈ xs, ∀ Ψ : Bool → Prop, Ψ (t x) → (ct x).run Ψ) (hf : ∀ x ∈ xs, t x = true → ∀ Ψ : β → Prop, Ψ (f x) → (cf x).run Ψ)
    (k : Φ (acc ++ (xs.filter t).map f)) : (comp xs acc ct cf).run Φ := by
  induction xs generalizing acc with
  | nil =>
    simp at k
    exact k
  | cons x xs ih =>
    refine ht x List.mem_cons_self _ ⟨fun e => ?_, fun e => ?_⟩
    · refine hf x List.mem_cons_self e _ (ih (fun y hy => ht y (List.mem_cons_of_mem _ hy)) (fun y hy => hf y (List.mem_cons_of_mem _ hy)) ?_)
      simpa [List.filter_cons, e] using k
    · refine ih (fun y hy => ht y (List.mem_cons_of_mem _ hy)) (fun y hy => hf y (List.mem_cons_of_mem _ hy)) ?_
      simpa [List.filter_cons, e] using k
theorem compG_wp {xs : List α} {ct : α → W Bool} {cf : α → W β} (t : α → Bool) (f : α → β) {Φ : List β → Prop} (hl : xs.length ≤ sizeLine) (ht : ∀ x ∈ xs, ∀ Ψ : Bool → Prop, Ψ (t x) → (ct x).run Ψ) (hf : ∀ x ∈ xs, t x = true → ∀ Ψ : β → Prop, Ψ (f x) → (cf x).run Ψ)
    (k : Φ ((xs.filter t).map f)) : (compG xs ct cf).run Φ := ⟨hl, comp_wp t f ht hf (by simpa using k)⟩
theorem small {n : Nat} (h : n ≤ 100000) : n ≤ sizeLine := Nat.le_trans h (by decide)
theorem small' {n : Nat} (h : n ≤ 100000) : n < sizeLine := Nat.lt_of_le_of_lt h (by decide)
theorem apd_wp {xs : List α} {x : α} {Φ : List α → Prop} (h : xs.length ≤ 100000) (k : Φ (xs ++ [x])) : (apd xs x).run Φ := ⟨small' h, k⟩
theorem sti_wp {xs : List α} {i : Int} {y : α} {Φ : List α → Prop} (h0 : 0 ≤ i) (h : i < xs.length) (k : Φ (xs.set i.toNat y)) : (sti xs i y).run Φ := ⟨i.toNat, ixN_nat' h0 h, k⟩
/-! slices -/
theorem sIx_none (n d : Nat) : HT.sIx n d none = d := HT.sIx_none n d
theorem cut_to {xs : List α} {k : Int} (h0 : 0 ≤ k) : cut xs none (some k) = xs.take k.toNat := by
  obtain ⟨j, rfl⟩ : ∃ j : Nat, k = j := ⟨k.toNat, by omega⟩
  unfold cut
  rw [HT.sIx_none, HT.sIx_nat]
  simp only [List.drop_zero, Nat.sub_zero, Int.toNat_natCast]
  by_cases h : j ≤ xs.length
  · rw [Nat.min_eq_left h]
  · rw [Nat.min_eq_right (by omega), List.take_of_length_le (Nat.le_refl _), List.take_of_length_le (by omega)]
theorem cut_init {xs : List α} : cut xs none (some (-1)) = xs.dropLast := by
  unfold cut
  rw [HT.sIx_none]
  have e : HT.sIx xs.length xs.length (some (-1)) = xs.length - 1 := by
    simp only [HT.sIx]
    rw [if_pos (by decide)]
    omega
  rw [e]
  simp [List.dropLast_eq_take]
theorem cut_from {xs : List α} {k : Int} (h0 : 0 ≤ k) : cut xs (some k) none = xs.drop k.toNat := by
  obtain ⟨j, rfl⟩ : ∃ j : Nat, k = j := ⟨k.toNat, by omega⟩
  unfold cut
  rw [HT.sIx_none, HT.sIx_nat]
  simp only [Int.toNat_natCast]
  by_cases h : j ≤ xs.length
  · rw [Nat.min_eq_left h, List.take_of_length_le (by simp)]
  · rw [Nat.min_eq_right (by omega)]
    simp
    omega
end
/-! ### equal data -/
/-- data that == tells apart as Lean does, and that may be compared -/
class Eqv (α : Type) [Py α] where
  eqv : ∀ x y : α, PyData.eqv (toPy x) (toPy y) = true ↔ x = y
  d : Nat
  shape : ∀ x : α, (toPy x).depth ≤ d
theorem eqvAll_map {α : Type} [Py α] [Eqv α] : ∀ xs ys : List α, PyData.eqvAll (xs.map Py.toPy) (ys.map Py.toPy) = true ↔ xs = ys
  | [], [] => by simp [PyData.eqvAll]
  | [], y :: ys => by simp [PyData.eqvAll]
  | x :: xs, [] => by simp [PyData.eqvAll]
  | x :: xs, y :: ys => by
    have h1 := Eqv.eqv x y
    have h2 := eqvAll_map xs ys
    simp only [List.map_cons, PyData.eqvAll, Bool.and_eq_true, List.cons.injEq]
    rw [← h1, ← h2]
theorem depthAll_map {α : Type} [Py α] [Eqv α] : ∀ xs : List α, PyData.depthAll (xs.map Py.toPy) ≤ Eqv.d α
  | [] => by simp [PyData.depthAll]
  | x :: xs => by
    have h1 := Eqv.shape x
    have h2 := depthAll_map xs
    simp only [List.map_cons, PyData.depthAll]
    exact Nat.max_le.mpr ⟨h1, h2⟩
instance : Eqv Int := ⟨fun x y => by simp [toPy, Py.toPy, PyData.eqv], 0, fun x => by simp [toPy, Py.toPy, PyData.depth]⟩
instance : Eqv Bool := ⟨fun x y => by simp [toPy, Py.toPy, PyData.eqv], 0, fun x => by simp [toPy, Py.toPy, PyData.depth]⟩
instance : Eqv Str := ⟨fun x y => by simp [toPy, Py.toPy, PyData.eqv], 0, fun x => by simp [toPy, Py.toPy, PyData.depth]⟩
instance {α : Type} [Py α] [Eqv α] : Eqv (List α) := ⟨fun x y => by
  show PyData.eqv (.list (x.map Py.toPy)) (.list (y.map Py.toPy)) = true ↔ x = y
  simp only [PyData.eqv]
  exact eqvAll_map x y, Eqv.d α + 1, fun x => by
  show PyData.depth (.list (x.map Py.toPy)) ≤ _
  simp only [PyData.depth]
  exact Nat.succ_le_succ (depthAll_map x)⟩
instance {α β : Type} [Py α] [Py β] [Eqv α] [Eqv β] : Eqv (α × β) := ⟨fun x y => by
  obtain ⟨x1, x2⟩ := x
  obtain ⟨y1, y2⟩ := y
  show PyData.eqv (.tuple [toPy x1, toPy x2]) (.tuple [toPy y1, toPy y2]) = true ↔ _
  simp only [PyData.eqv, PyData.eqvAll, Bool.and_eq_true, Bool.and_true, Prod.mk.injEq]
  rw [Eqv.eqv x1 y1, Eqv.eqv x2 y2], Eqv.d α + Eqv.d β + 1, fun x => by
  obtain ⟨x1, x2⟩ := x
  show PyData.depth (.tuple [toPy x1, toPy x2]) ≤ _
  have h1 := Eqv.shape x1
  have h2 := Eqv.shape x2
  simp only [PyData.depth, PyData.depthAll]
  omega⟩
instance {α β γ : Type} [Py α] [Py β] [Py γ] [Eqv α] [Eqv β] [Eqv γ] : Eqv (P3 α β γ) := ⟨fun x y => by
  obtain ⟨x1, x2, x3⟩ := x
  obtain ⟨y1, y2, y3⟩ := y
  show PyData.eqv (.tuple [toPy x1, toPy x2, toPy x3]) (.tuple [toPy y1, toPy y2, toPy y3]) = true ↔ _
  simp only [PyData.eqv, PyData.eqvAll, Bool.and_eq_true, Bool.and_true, P3.mk.injEq]
  rw [Eqv.eqv x1 y1, Eqv.eqv x2 y2, Eqv.eqv x3 y3], Eqv.d α + Eqv.d β + Eqv.d γ + 1, fun x => by
  obtain ⟨x1, x2, x3⟩ := x
  show PyData.depth (.tuple [toPy x1, toPy x2, toPy x3]) ≤ _
  have h1 := Eqv.shape x1
  have h2 := Eqv.shape x2
  have h3 := Eqv.shape x3
  simp only [PyData.depth, PyData.depthAll]
  omega⟩
instance {α β γ δ : Type} [Py α] [Py β] [Py γ] [Py δ] [Eqv α] [Eqv β] [Eqv γ] [Eqv δ] : Eqv (P4 α β γ δ) := ⟨fun x y => by
  obtain ⟨x1, x2, x3, x4⟩ := x
  obtain ⟨y1, y2, y3, y4⟩ := y
  show PyData.eqv (.tuple [toPy x1, toPy x2, toPy x3, toPy x4]) (.tuple [toPy y1, toPy y2, toPy y3, toPy y4]) = true ↔ _
  simp only [PyData.eqv, PyData.eqvAll, Bool.and_eq_true, Bool.and_true, P4.mk.injEq]
  rw [Eqv.eqv x1 y1, Eqv.eqv x2 y2, Eqv.eqv x3 y3, Eqv.eqv x4 y4], Eqv.d α + Eqv.d β + Eqv.d γ + Eqv.d δ + 1, fun x => by
  obtain ⟨x1, x2, x3, x4⟩ := x
  show PyData.depth (.tuple [toPy x1, toPy x2, toPy x3, toPy x4]) ≤ _
  have h1 := Eqv.shape x1
  have h2 := Eqv.shape x2
  have h3 := Eqv.shape x3
  have h4 := Eqv.shape x4
  simp only [PyData.depth, PyData.depthAll]
  omega⟩
theorem eqD_iff {α : Type} [Py α] [Eqv α] {x y : α} : eqD x y = true ↔ x = y := Eqv.eqv x y
theorem eqD_dec {α : Type} [Py α] [Eqv α] [DecidableEq α] {x y : α} : eqD x y = decide (x = y) := by
  by_cases h : x = y
  · rw [decide_eq_true h]; exact eqD_iff.mpr h
  · rw [decide_eq_false h]
    cases e : eqD x y with
    | false => rfl
    | true => exact absurd (eqD_iff.mp e) h
theorem eqD_self {α : Type} [Py α] [Eqv α] (x : α) : eqD x x = true := eqD_iff.mpr rfl
/-- what may be laid at all: the texts in it are of signs that there are -/
class Lay (α : Type) [Py α] where
  ok : α → Prop
  lay : ∀ x : α, ok x → (toPy x).canLay0 = true
theorem canLayAll_map {α : Type} [Py α] [Lay α] : ∀ xs : List α, (∀ x ∈ xs, Lay.ok x) → PyData.canLayAll0 (xs.map Py.toPy) = true
  | [], _ => by simp [PyData.canLayAll0]
  | x :: xs, h => by
    simp only [List.map_cons, PyData.canLayAll0, Bool.and_eq_true]
    exact ⟨Lay.lay x (h x List.mem_cons_self), canLayAll_map xs fun y hy => h y (List.mem_cons_of_mem _ hy)⟩
instance : Lay Int := ⟨fun _ => True, fun x _ => by simp [toPy, Py.toPy, PyData.canLay0]⟩
instance : Lay Bool := ⟨fun _ => True, fun x _ => by simp [toPy, Py.toPy, PyData.canLay0]⟩
instance : Lay Str := ⟨fun x => PyData.strOk x = true, fun x h => by simpa [toPy, Py.toPy, PyData.canLay0] using h⟩
instance {α : Type} [Py α] [Lay α] : Lay (List α) := ⟨fun xs => ∀ x ∈ xs, Lay.ok x, fun xs h => by
  show PyData.canLay0 (.list (xs.map Py.toPy)) = true
  simp only [PyData.canLay0]
  exact canLayAll_map xs h⟩
instance {α β : Type} [Py α] [Py β] [Lay α] [Lay β] : Lay (α × β) := ⟨fun x => Lay.ok x.1 ∧ Lay.ok x.2, fun x h => by
  show PyData.canLay0 (.tuple [toPy x.1, toPy x.2]) = true
  simp only [PyData.canLay0, PyData.canLayAll0, Bool.and_eq_true, Bool.and_true]
  exact ⟨Lay.lay _ h.1, Lay.lay _ h.2⟩⟩
instance {α β γ : Type} [Py α] [Py β] [Py γ] [Lay α] [Lay β] [Lay γ] : Lay (P3 α β γ) := ⟨fun x => Lay.ok x.a ∧ Lay.ok x.b ∧ Lay.ok x.c, fun x h => by
  show PyData.canLay0 (.tuple [toPy x.a, toPy x.b, toPy x.c]) = true
  simp only [PyData.canLay0, PyData.canLayAll0, Bool.and_eq_true, Bool.and_true]
  exact ⟨Lay.lay _ h.1, Lay.lay _ h.2.1, Lay.lay _ h.2.2⟩⟩
instance {α β γ δ : Type} [Py α] [Py β] [Py γ] [Py δ] [Lay α] [Lay β] [Lay γ] [Lay δ] : Lay (P4 α β γ δ) := ⟨fun x => Lay.ok x.a ∧ Lay.ok x.b ∧ Lay.ok x.c ∧ Lay.ok x.d, fun x h => by
  show PyData.canLay0 (.tuple [toPy x.a, toPy x.b, toPy x.c, toPy x.d]) = true
  simp only [PyData.canLay0, PyData.canLayAll0, Bool.and_eq_true, Bool.and_true]
  exact ⟨Lay.lay _ h.1, Lay.lay _ h.2.1, Lay.lay _ h.2.2.1, Lay.lay _ h.2.2.2⟩⟩
theorem okD_of {α : Type} [Py α] [Eqv α] [Lay α] {x : α} (h : Lay.ok x) (hd : Eqv.d α ≤ 64 := by decide) : okD x := by
  unfold okD SeqAt.shaped
  rw [Bool.and_eq_true]
  exact ⟨Lay.lay x h, decide_eq_true (Nat.le_trans (Eqv.shape x) hd)⟩
/-- kinds in which no text stands -/
class Pl (α : Type) [Py α] : Prop where
  lay : ∀ x : α, (toPy x).canLay0 = true
theorem plAll {α : Type} [Py α] [Pl α] : ∀ xs : List α, PyData.canLayAll0 (xs.map Py.toPy) = true
  | [] => by simp [PyData.canLayAll0]
  | x :: xs => by
    simp only [List.map_cons, PyData.canLayAll0, Bool.and_eq_true]
    exact ⟨Pl.lay x, plAll xs⟩
instance : Pl Int := ⟨fun x => by simp [toPy, Py.toPy, PyData.canLay0]⟩
instance : Pl Bool := ⟨fun x => by simp [toPy, Py.toPy, PyData.canLay0]⟩
instance : Pl Unit := ⟨fun x => by simp [toPy, Py.toPy, PyData.canLay0]⟩
instance {α : Type} [Py α] [Pl α] : Pl (List α) := ⟨fun xs => by
  show PyData.canLay0 (.list (xs.map Py.toPy)) = true
  simp only [PyData.canLay0]
  exact plAll xs⟩
instance {α : Type} [Py α] [Pl α] : Pl (Option α) := ⟨fun x => by
  cases x with
  | none => show PyData.canLay0 .none = true; simp [PyData.canLay0]
  | some a => exact Pl.lay a⟩
instance {α β : Type} [Py α] [Py β] [Pl α] [Pl β] : Pl (α × β) := ⟨fun x => by
  show PyData.canLay0 (.tuple [toPy x.1, toPy x.2]) = true
  simp only [PyData.canLay0, PyData.canLayAll0, Bool.and_eq_true, Bool.and_true]
  exact ⟨Pl.lay _, Pl.lay _⟩⟩
instance {α β γ : Type} [Py α] [Py β] [Py γ] [Pl α] [Pl β] [Pl γ] : Pl (P3 α β γ) := ⟨fun x => by
  show PyData.canLay0 (.tuple [toPy x.a, toPy x.b, toPy x.c]) = true
  simp only [PyData.canLay0, PyData.canLayAll0, Bool.and_eq_true, Bool.and_true]
  exact ⟨Pl.lay _, Pl.lay _, Pl.lay _⟩⟩
instance {α β γ δ : Type} [Py α] [Py β] [Py γ] [Py δ] [Pl α] [Pl β] [Pl γ] [Pl δ] : Pl (P4 α β γ δ) := ⟨fun x => by
  show PyData.canLay0 (.tuple [toPy x.a, toPy x.b, toPy x.c, toPy x.d]) = true
  simp only [PyData.canLay0, PyData.canLayAll0, Bool.and_eq_true, Bool.and_true]
  exact ⟨Pl.lay _, Pl.lay _, Pl.lay _, Pl.lay _⟩⟩
/-- kinds that are never None -/
class Nn (α : Type) [Py α] : Prop where
  ne : ∀ x : α, toPy x ≠ .none
  l : ∀ x : α, PyData.eqv (toPy x) .none = false
  r : ∀ x : α, PyData.eqv .none (toPy x) = false
instance : Nn Int := ⟨fun x e => (by cases e), fun x => (by simp [toPy, Py.toPy, PyData.eqv]), fun x => (by simp [toPy, Py.toPy, PyData.eqv])⟩
instance : Nn Bool := ⟨fun x e => (by cases e), fun x => (by simp [toPy, Py.toPy, PyData.eqv]), fun x => (by simp [toPy, Py.toPy, PyData.eqv])⟩
instance : Nn Str := ⟨fun x e => (by cases e), fun x => (by simp [toPy, Py.toPy, PyData.eqv]), fun x => (by simp [toPy, Py.toPy, PyData.eqv])⟩
instance {α : Type} [Py α] : Nn (List α) := ⟨fun x e => (by cases e), fun x => (by simp [toPy, Py.toPy, PyData.eqv]), fun x => (by simp [toPy, Py.toPy, PyData.eqv])⟩
instance {α β : Type} [Py α] [Py β] : Nn (α × β) := ⟨fun x e => (by cases e), fun x => (by simp [toPy, Py.toPy, PyData.eqv]), fun x => (by simp [toPy, Py.toPy, PyData.eqv])⟩
instance {α β γ : Type} [Py α] [Py β] [Py γ] : Nn (P3 α β γ) := ⟨fun x e => (by cases e), fun x => (by simp [toPy, Py.toPy, PyData.eqv]), fun x => (by simp [toPy, Py.toPy, PyData.eqv])⟩
instance {α β γ δ : Type} [Py α] [Py β] [Py γ] [Py δ] : Nn (P4 α β γ δ) := ⟨fun x e => (by cases e), fun x => (by simp [toPy, Py.toPy, PyData.eqv]), fun x => (by simp [toPy, Py.toPy, PyData.eqv])⟩
theorem nn {α : Type} [Py α] [Nn α] {x : Option α} : ∀ b : α, x = some b → toPy b ≠ .none := fun b _ => Nn.ne b
instance {α : Type} [Py α] [Eqv α] [Nn α] : Eqv (Option α) := ⟨fun x y => by
  cases x with
  | none =>
    cases y with
    | none => show PyData.eqv .none .none = true ↔ _; simp [PyData.eqv]
    | some b => show PyData.eqv .none (toPy b) = true ↔ _; rw [Nn.r]; simp
  | some a =>
    cases y with
    | none => show PyData.eqv (toPy a) .none = true ↔ _; rw [Nn.l]; simp
    | some b => show PyData.eqv (toPy a) (toPy b) = true ↔ _; rw [Eqv.eqv a b]; simp, Eqv.d α, fun x => by
  cases x with
  | none => show PyData.depth .none ≤ _; simp [PyData.depth]
  | some a => exact Eqv.shape a⟩
theorem okD_pl {α : Type} [Py α] [Eqv α] [Pl α] (x : α) (hd : Eqv.d α ≤ 64 := by decide) : okD x := by
  unfold okD SeqAt.shaped
  rw [Bool.and_eq_true]
  exact ⟨Pl.lay x, decide_eq_true (Nat.le_trans (Eqv.shape x) hd)⟩
theorem inD_iff {α : Type} [Py α] [Eqv α] {x : α} {ys : List α} : inD x ys = true ↔ x ∈ ys := by
  unfold inD
  rw [List.any_eq_true]
  constructor
  · rintro ⟨y, hy, e⟩
    rw [← eqD_iff.mp e]; exact hy
  · intro h
    exact ⟨x, h, eqD_self x⟩
theorem inD_dec {α : Type} [Py α] [Eqv α] [DecidableEq α] {x : α} {ys : List α} : inD x ys = decide (x ∈ ys) := by
  by_cases h : x ∈ ys
  · rw [decide_eq_true h]; exact inD_iff.mpr h
  · rw [decide_eq_false h]
    cases e : inD x ys with
    | false => rfl
    | true => exact absurd (inD_iff.mp e) h
end Z

namespace M
open PySem L2 Z
def sub_TooMany : Nat → Bool
  | 0 => false
  | 1 => true
  | _ => false

def m_is_touch (counts_ : (List Int)) (hand_ : Int) (k_ : Int) : W (Bool) :=
  W.bind (W.ite (decide ((0 : Int) ≤ hand_)) (W.bind (W.ite (decide (hand_ < ((counts_).length : Int))) (W.bind (W.ite (decide ((0 : Int) ≤ k_)) (W.bind (W.opt (atI counts_ hand_)) fun t1 => W.ret (decide (k_ < t1))) (W.ret false)) (fun t3 => W.ret t3)) (W.ret false)) (fun t7 => W.ret t7)) (W.ret false)) (fun t11 => W.ret t11)
def m_need_record_L1 (counts_ : (List Int)) (hand_ : Int) (k_ : Int) (other_ : Int) (m_ : Int) : W (Ctl (Ex Unit) (Unit)) :=
  W.bind (W.ite (decide (hand_ = other_)) (W.ret true) (W.bind (m_is_touch counts_ hand_ k_) fun t4 => W.bind (W.ite (!t4) (W.ret true) (W.bind (m_is_touch counts_ other_ m_) fun t8 => W.ret (!t8))) (fun t12 => W.ret t12))) (fun t16 => W.ite t16 (W.ret (Ctl.rt (Ex.er ⟨0, .none⟩))) (W.ret (Ctl.nx ())))
def m_need_record (record_ : ((List Int) × (List (P4 Int Int Int Int)))) : W (Ex Unit) :=
  W.bind (W.ret record_) fun u => (fun counts_ some_ => W.bind (W.forC some_ () (fun a s => m_need_record_L1 counts_ a.a a.b a.c a.d)) fun c => W.after c (fun _ => W.ret (Ex.ok ()))) u.1 u.2
def m_firsts_of_L1 (hand_ : Int) (k_ : Int) (other_ : Int) (m_ : Int) (found_ : (Dc (Int × Int) (List (Int × Int)))) : W ((Dc (Int × Int) (List (Int × Int)))) :=
  W.bind (sdApp found_ (other_, m_) (hand_, k_)) fun found_ => W.ret (found_)
def m_firsts_of (record_ : ((List Int) × (List (P4 Int Int Int Int)))) : W ((Dc (Int × Int) (List (Int × Int)))) :=
  W.bind (W.ret ([] : (Dc (Int × Int) (List (Int × Int))))) fun found_ => W.bind (W.forL record_.2 found_ (fun a s => m_firsts_of_L1 a.a a.b a.c a.d s)) (fun s => (fun found_ => W.ret found_) s)
def m_waits_for (firsts_ : (Dc (Int × Int) (List (Int × Int)))) (now_ : (Tp Int)) (hand_ : Int) : W ((List (Int × Int))) :=
  W.bind (W.opt (atI now_.l hand_)) fun t2 => W.bind (W.ret ((valM firsts_ (hand_, t2)).getD ([] : (List (Int × Int))))) fun there_ => W.bind (compG there_ (fun a => (fun other_ k_ => W.bind (W.opt (atI now_.l other_)) fun t15 => W.ret (decide (k_ ≥ t15))) a.1 a.2) (fun a => (fun other_ k_ => W.ret (other_, k_)) a.1 a.2)) fun t22 => W.ret t22
def m_ready (counts_ : (List Int)) (firsts_ : (Dc (Int × Int) (List (Int × Int)))) (now_ : (Tp Int)) : W ((List Int)) :=
  W.guard (rngOk 0 ((counts_).length : Int)) (W.bind (compG (rng 0 ((counts_).length : Int)) (fun hand_ => W.bind (W.opt (atI now_.l hand_)) fun t3 => W.bind (W.opt (atI counts_ hand_)) fun t5 => W.ret (decide (t3 < t5))) (fun hand_ => W.ret hand_)) fun t10 => W.bind (W.ret t10) fun hands_ => W.bind (compG hands_ (fun hand_ => W.bind (m_waits_for firsts_ now_ hand_) fun t17 => W.guard (okD t17 ∧ okD ([] : (List (Int × Int)))) (W.ret (eqD t17 ([] : (List (Int × Int)))))) (fun hand_ => W.ret hand_)) fun t28 => W.ret t28)
def m_next_layer_L1 (now_ : (Tp Int)) (ways_ : Int) (hand_ : Int) (there_ : (Dc (Tp Int) Int)) : W ((Dc (Tp Int) Int)) :=
  W.bind (W.opt (atI now_.l hand_)) fun t15 => W.guard (((⟨Z.cut now_.l none (some hand_)⟩ : (Tp Int))).l.length + ((⟨[(t15 + (1 : Int))]⟩ : (Tp Int))).l.length ≤ sizeLine) (W.guard (((⟨(⟨Z.cut now_.l none (some hand_)⟩ : (Tp Int)).l ++ (⟨[(t15 + (1 : Int))]⟩ : (Tp Int)).l⟩ : (Tp Int))).l.length + ((⟨Z.cut now_.l (some (hand_ + (1 : Int))) none⟩ : (Tp Int))).l.length ≤ sizeLine) (W.bind (W.ret (⟨(⟨(⟨Z.cut now_.l none (some hand_)⟩ : (Tp Int)).l ++ (⟨[(t15 + (1 : Int))]⟩ : (Tp Int)).l⟩ : (Tp Int)).l ++ (⟨Z.cut now_.l (some (hand_ + (1 : Int))) none⟩ : (Tp Int)).l⟩ : (Tp Int))) fun after_ => W.bind (putG there_ after_ (((valM there_ after_).getD (0 : Int)) + ways_)) fun there_ => W.ret (there_)))
def m_next_layer_L2 (counts_ : (List Int)) (firsts_ : (Dc (Int × Int) (List (Int × Int)))) (now_ : (Tp Int)) (ways_ : Int) (there_ : (Dc (Tp Int) Int)) : W ((Dc (Tp Int) Int)) :=
  W.bind (m_ready counts_ firsts_ now_) fun t8 => W.bind (W.forL t8 there_ (fun a s => m_next_layer_L1 now_ ways_ a s)) (fun s => (fun there_ => W.ret (there_)) s)
def m_next_layer (counts_ : (List Int)) (firsts_ : (Dc (Int × Int) (List (Int × Int)))) (here_ : (Dc (Tp Int) Int)) : W ((Dc (Tp Int) Int) × (Dc (Tp Int) Int)) :=
  W.bind (W.ret ([] : (Dc (Tp Int) Int))) fun there_ => W.bind (W.forL here_ there_ (fun a s => m_next_layer_L2 counts_ firsts_ a.1 a.2 s)) (fun s => (fun there_ => W.ret (there_, here_)) s)
def m_layers_L1 (most_ : Int) (counts_ : (List Int)) (firsts_ : (Dc (Int × Int) (List (Int × Int)))) (step_ : Int) (here_ : (Dc (Tp Int) Int)) (many_ : Int) : W ((Dc (Tp Int) Int) × Int) :=
  W.bind (W.ite (decide (many_ ≤ most_)) (W.bind2 (m_next_layer counts_ firsts_ here_) fun t24 here_ => W.bind (W.ret t24) fun here_ => W.bind (W.ret (many_ + ((here_).length : Int))) fun many_ => W.ret ((here_, many_))) (W.ret ((here_, many_)))) (fun s => (fun here_ many_ => W.ret ((here_, many_))) s.1 s.2)
def m_layers (record_ : ((List Int) × (List (P4 Int Int Int Int)))) (most_ : Int) : W (Ex (Int × Int)) :=
  W.exm (m_need_record record_) (fun t1 => W.bind (W.ret record_.1) fun counts_ => W.bind (m_firsts_of record_) fun t6 => W.bind (W.ret t6) fun firsts_ => W.guard (repG ([(0 : Int)] : (List Int)) ((counts_).length : Int)) (W.bind (W.ret ([((⟨(repL ([(0 : Int)] : (List Int)) ((counts_).length : Int))⟩ : (Tp Int)), (1 : Int))] : (Dc (Tp Int) Int))) fun here_ => W.bind (W.ret ((here_).length : Int)) fun many_ => W.guard (rngOk 0 ((counts_).sum)) (W.bind (W.forL (rng 0 ((counts_).sum)) (here_, many_) (fun a s => m_layers_L1 most_ counts_ firsts_ a s.1 s.2)) (fun s => (fun here_ many_ => W.ite (decide (many_ > most_)) (W.ret (Ex.er ⟨1, .none⟩)) (W.ret (Ex.ok (many_, ((valM here_ (⟨counts_⟩ : (Tp Int))).getD (0 : Int)))))) s.1 s.2)))) (fun er => W.ret (Ex.er er))
def m_how_many_cuts (record_ : ((List Int) × (List (P4 Int Int Int Int)))) (most_ : Int) : W (Ex Int) :=
  W.exm (m_layers record_ most_) (fun t1 => W.ret (Ex.ok t1.1)) (fun er => W.ret (Ex.er er))
def m_how_many_orders (record_ : ((List Int) × (List (P4 Int Int Int Int)))) (most_ : Int) : W (Ex Int) :=
  W.exm (m_layers record_ most_) (fun t1 => W.ret (Ex.ok t1.2)) (fun er => W.ret (Ex.er er))
def m_law_bag_L1 (cell_ : Int) (total_ : Int) : W (Int) :=
  W.guard (CMulW total_ (1000003 : Int)) (W.bind (W.ret ((((total_ * (1000003 : Int)) + (cell_ % (2305843009213693951 : Int))) + (1 : Int)) % (2305843009213693951 : Int))) fun total_ => W.ret (total_))
def m_law_bag (script_ : (List Int)) : W ((H5 (List Int) Int Int Int Int)) :=
  W.bind (W.ret (1 : Int)) fun total_ => W.bind (W.forL script_ total_ (fun a s => m_law_bag_L1 a s)) (fun s => (fun total_ => W.ret (⟨script_, (0 : Int), (0 : Int), (0 : Int), total_⟩ : (H5 (List Int) Int Int Int Int))) s)
def m_law_stir (number_ : Int) (place_ : Int) : W (Int) :=
  W.guard (CMulW number_ (998244353 : Int)) (W.guard (CMulW place_ (1000000007 : Int)) (W.bind (W.ret ((((number_ * (998244353 : Int)) + (place_ * (1000000007 : Int))) + (5 : Int)) % (2305843009213693951 : Int))) fun one_ => W.guard (CMulW one_ one_) (W.bind (W.ret ((one_ * one_) % (2305843009213693951 : Int))) fun two_ => W.guard (CMulW two_ (2860486313 : Int)) (W.guard (CMulW place_ place_) (W.guard (CMulW (place_ * place_) (48271 : Int)) (W.guard (CDivW one_ (3 : Int)) (W.guard (CDivW ((((two_ * (2860486313 : Int)) + ((place_ * place_) * (48271 : Int))) + (one_ / (3 : Int))) % (2305843009213693921 : Int)) (1024 : Int)) (W.ret (((((two_ * (2860486313 : Int)) + ((place_ * place_) * (48271 : Int))) + (one_ / (3 : Int))) % (2305843009213693921 : Int)) / (1024 : Int))))))))))
def m_law_draw (bag_ : (H5 (List Int) Int Int Int Int)) (many_ : Int) : W (Int × (H5 (List Int) Int Int Int Int)) :=
  W.ite (decide (many_ = (1 : Int))) (W.ret ((0 : Int), bag_)) (W.bind (W.ret ({ bag_ with d := (bag_.d + (1 : Int)) } : (H5 (List Int) Int Int Int Int))) fun bag_ => W.bind (W.ite (decide (bag_.c < (2 : Int))) (W.ret (decide (bag_.b = ((bag_.a).length : Int)))) (W.ret false)) (fun t5 => W.ite t5 (W.bind (m_law_stir bag_.e bag_.d) fun t11 => W.guard (0 < many_) (W.ret ((t11 % many_), bag_))) (W.bind (W.ite (decide (bag_.c < (2 : Int))) (W.bind (W.opt (atI bag_.a bag_.b)) fun t18 => W.bind (W.ret t18) fun cell_ => W.bind (W.ret ({ bag_ with b := (bag_.b + (1 : Int)) } : (H5 (List Int) Int Int Int Int))) fun bag_ => W.guard (CPow (10 : Int) (18 : Int)) (W.ite (decide (cell_ < ((10 : Int) ^ ((18 : Int)).toNat))) (W.bind (m_law_stir (cell_ % (2305843009213693951 : Int)) bag_.d) fun t22 => W.guard (0 < many_) (W.ret (Ctl.rt ((t22 % many_), bag_)))) (W.guard (CPow (10 : Int) (18 : Int)) (W.bind (W.ret ({ bag_ with c := (cell_ - ((10 : Int) ^ ((18 : Int)).toNat)) } : (H5 (List Int) Int Int Int Int))) fun bag_ => W.ret (Ctl.nx bag_))))) (W.ret (Ctl.nx bag_))) fun c => W.after c (fun s => (fun bag_ => W.guard (0 < many_) (W.bind (W.ret (bag_.c % many_)) fun found_ => W.guard (CDivW bag_.c many_) (W.bind (W.ret ({ bag_ with c := (bag_.c / many_) } : (H5 (List Int) Int Int Int Int))) fun bag_ => W.ret (found_, bag_)))) s))))
def m_law_counts (bag_ : (H5 (List Int) Int Int Int Int)) (great_ : Int) : W ((List Int) × (H5 (List Int) Int Int Int Int)) :=
  W.ite (decide (great_ = (0 : Int))) (W.bind2 (m_law_draw bag_ (7 : Int)) fun t5 bag_ => W.bind (W.opt (atI ([(3 : Int), (2 : Int), (4 : Int), (2 : Int), (3 : Int), (1 : Int), (0 : Int)] : (List Int)) t5)) fun t9 => W.guard (rngOk 0 t9) (W.bind (compSG (rng 0 t9) bag_ (fun a s => (fun hand_ => (fun bag_ => W.bind2 (m_law_draw bag_ (7 : Int)) fun t13 bag_ => W.ret (some t13, bag_)) s) a)) fun q => (fun t20 bag_ => W.ret (t20, bag_)) q.1 q.2)) (W.bind2 (m_law_draw bag_ (2 : Int)) fun t25 bag_ => W.bind (W.ret t25) fun few_ => W.bind2 (m_law_draw bag_ (9 : Int)) fun t29 bag_ => W.bind (W.ret ((8 : Int) - t29)) fun hands_ => W.guard (CDivW (300 : Int) (if hands_ > (1 : Int) then hands_ else (1 : Int))) (W.bind (W.opt (atI ([(((300 : Int) / (if hands_ > (1 : Int) then hands_ else (1 : Int))) + (1 : Int)), (4 : Int)] : (List Int)) few_)) fun t37 => W.bind (W.ret t37) fun top_ => W.guard (rngOk 0 hands_) (W.bind (compSG (rng 0 hands_) bag_ (fun a s => (fun hand_ => (fun bag_ => W.bind2 (m_law_draw bag_ top_) fun t41 bag_ => W.ret (some t41, bag_)) s) a)) fun q => (fun t48 bag_ => W.ret (t48, bag_)) q.1 q.2)))
def m_law_order_L1 (step_ : Int) (bag_ : (H5 (List Int) Int Int Int Int)) (left_ : (List Int)) (order_ : (List Int)) : W ((H5 (List Int) Int Int Int Int) × (List Int) × (List Int)) :=
  W.guard (rngOk 0 ((left_).length : Int)) (W.bind (compG (rng 0 ((left_).length : Int)) (fun hand_ => W.bind (W.opt (atI left_ hand_)) fun t12 => W.ret (decide (t12 > (0 : Int)))) (fun hand_ => W.ret hand_)) fun t17 => W.bind (W.ret t17) fun some_ => W.bind2 (m_law_draw bag_ ((some_).length : Int)) fun t22 bag_ => W.bind (W.opt (atI some_ t22)) fun t26 => W.bind (apd order_ t26) fun order_ => W.bind (W.opt (atI order_ (-(1 : Int)))) fun t28 => W.bind (W.opt (atI left_ t28)) fun t30 => W.bind (W.opt (atI order_ (-(1 : Int)))) fun t32 => W.bind (sti left_ t32 (t30 - (1 : Int))) fun left_ => W.ret ((bag_, left_, order_)))
def m_law_order (bag_ : (H5 (List Int) Int Int Int Int)) (counts_ : (List Int)) : W ((List Int) × (H5 (List Int) Int Int Int Int)) :=
  W.bind (W.ret counts_) fun left_ => W.bind (W.ret ([] : (List Int))) fun order_ => W.guard (rngOk 0 ((counts_).sum)) (W.bind (W.forL (rng 0 ((counts_).sum)) (bag_, left_, order_) (fun a s => m_law_order_L1 a s.1 s.2.1 s.2.2)) (fun s => (fun bag_ left_ order_ => W.ret (order_, bag_)) s.1 s.2.1 s.2.2))
def m_law_spots_L1 (order_ : (List Int)) (at_ : Int) (found_ : (Dc (Int × Int) Int)) (many_ : (Dc Int Int)) : W ((Dc (Int × Int) Int) × (Dc Int Int)) :=
  W.bind (W.opt (atI order_ at_)) fun t9 => W.bind (W.opt (atI order_ at_)) fun t12 => W.bind (putG many_ t12 (((valM many_ t9).getD (0 : Int)) + (1 : Int))) fun many_ => W.bind (W.opt (atI order_ at_)) fun t14 => W.bind (W.opt (atI order_ at_)) fun t16 => W.bind (W.opt (valM many_ t16)) fun t18 => W.bind (putG found_ (t14, (t18 - (1 : Int))) at_) fun found_ => W.ret ((found_, many_))
def m_law_spots (order_ : (List Int)) : W ((Dc (Int × Int) Int)) :=
  W.bind (W.ret ([] : (Dc (Int × Int) Int))) fun found_ => W.bind (W.ret ([] : (Dc Int Int))) fun many_ => W.guard (rngOk 0 ((order_).length : Int)) (W.bind (W.forL (rng 0 ((order_).length : Int)) (found_, many_) (fun a s => m_law_spots_L1 order_ a s.1 s.2)) (fun s => (fun found_ many_ => W.ret found_) s.1 s.2))
def m_law_note (bag_ : (H5 (List Int) Int Int Int Int)) (counts_ : (List Int)) : W ((Option (P4 Int Int Int Int)) × (H5 (List Int) Int Int Int Int)) :=
  W.guard (rngOk 0 ((counts_).length : Int)) (W.bind (compG (rng 0 ((counts_).length : Int)) (fun hand_ => W.bind (W.opt (atI counts_ hand_)) fun t3 => W.ret (decide (t3 > (0 : Int)))) (fun hand_ => W.ret hand_)) fun t8 => W.bind (W.ret t8) fun some_ => W.ite (decide (((some_).length : Int) < (2 : Int))) (W.ret ((none : (Option (P4 Int Int Int Int))), bag_)) (W.bind2 (m_law_draw bag_ ((some_).length : Int)) fun t13 bag_ => W.bind (W.ret t13) fun i_ => W.bind2 (m_law_draw bag_ (((some_).length : Int) - (1 : Int))) fun t17 bag_ => W.guard (0 < ((some_).length : Int)) (W.bind (W.ret (((i_ + (1 : Int)) + t17) % ((some_).length : Int))) fun j_ => W.bind (W.opt (atI some_ i_)) fun t21 => W.bind (W.opt (atI some_ i_)) fun t23 => W.bind (W.opt (atI counts_ t23)) fun t25 => W.bind2 (m_law_draw bag_ t25) fun t27 bag_ => W.bind (W.opt (atI some_ j_)) fun t31 => W.bind (W.opt (atI some_ j_)) fun t33 => W.bind (W.opt (atI counts_ t33)) fun t35 => W.bind2 (m_law_draw bag_ t35) fun t37 bag_ => W.ret ((some (⟨t21, t27, t31, t37⟩ : (P4 Int Int Int Int))), bag_))))
def m_law_record_L1 (mode_ : Int) (counts_ : (List Int)) (spots_ : (Dc (Int × Int) Int)) (step_ : Int) (bag_ : (H5 (List Int) Int Int Int Int)) (ties_ : (List (P4 Int Int Int Int))) : W ((H5 (List Int) Int Int Int Int) × (List (P4 Int Int Int Int))) :=
  W.bind2 (m_law_note bag_ counts_) fun t36 bag_ => W.bind (W.ret t36) fun note_ => W.bind (W.ite (decide (mode_ = (1 : Int))) (W.ret (true, bag_)) (W.bind (W.ite (decide (mode_ = (2 : Int))) (W.bind2 (m_law_draw bag_ (8 : Int)) fun t40 bag_ => W.ret ((decide (t40 > (0 : Int))), bag_)) (W.ret (false, bag_))) (fun s => (fun t44 bag_ => W.ret (t44, bag_)) s.1 s.2))) (fun s => (fun t48 bag_ => W.bind (W.ret t48) fun along_ => W.guard (∀ b, note_ = some b → toPy b ≠ .none) (W.bind (W.ite (note_.isSome) (W.bind (W.ite along_ (W.bind (W.opt note_) fun t52 => W.bind (W.opt (valM spots_ (t52.a, t52.b))) fun t56 => W.bind (W.opt note_) fun t58 => W.bind (W.opt (valM spots_ (t58.c, t58.d))) fun t62 => W.ret (decide (t56 > t62))) (W.ret false)) (fun t64 => W.bind (W.ite t64 (W.bind (W.opt note_) fun t68 => W.bind (W.opt note_) fun t72 => W.bind (W.ret (some (⟨(t68.c, t68.d).1, (t68.c, t68.d).2, (t72.a, t72.b).1, (t72.a, t72.b).2⟩ : (P4 Int Int Int Int)))) fun note_ => W.ret (note_)) (W.ret (note_))) (fun s => (fun note_ => W.bind2 (m_law_draw bag_ (((ties_).length : Int) + (1 : Int))) fun t79 bag_ => W.bind (W.opt note_) fun t83 => W.bind (insL ties_ t79 t83) fun ties_ => W.ret ((bag_, ties_, note_))) s))) (W.ret ((bag_, ties_, note_)))) (fun s => (fun bag_ ties_ note_ => W.ret ((bag_, ties_))) s.1 s.2.1 s.2.2))) s.1 s.2)
def m_law_record_R1 (twice_ : Int) (counts_ : (List Int)) (bag_ : (H5 (List Int) Int Int Int Int)) (ties_ : (List (P4 Int Int Int Int))) : W (((List Int) × (List (P4 Int Int Int Int))) × (H5 (List Int) Int Int Int Int)) :=
  W.bind (W.ite (decide (twice_ = (2 : Int))) (W.guard (okD ties_ ∧ okD ([] : (List (P4 Int Int Int Int)))) (W.ret (!eqD ties_ ([] : (List (P4 Int Int Int Int)))))) (W.ret false)) (fun t91 => W.bind (W.ite t91 (W.bind2 (m_law_draw bag_ (((ties_).length : Int) + (1 : Int))) fun t95 bag_ => W.bind2 (m_law_draw bag_ ((ties_).length : Int)) fun t99 bag_ => W.bind (W.opt (atI ties_ t99)) fun t103 => W.bind (insL ties_ t95 t103) fun ties_ => W.ret ((bag_, ties_))) (W.ret ((bag_, ties_)))) (fun s => (fun bag_ ties_ => W.ret ((counts_, ties_), bag_)) s.1 s.2))
def m_law_record (bag_ : (H5 (List Int) Int Int Int Int)) (great_ : Int) : W (((List Int) × (List (P4 Int Int Int Int))) × (H5 (List Int) Int Int Int Int)) :=
  W.bind2 (m_law_draw bag_ (3 : Int)) fun t1 bag_ => W.bind (W.ret t1) fun mode_ => W.bind2 (m_law_draw bag_ (3 : Int)) fun t5 bag_ => W.bind (W.ret t5) fun twice_ => W.bind2 (m_law_counts bag_ great_) fun t9 bag_ => W.bind (W.ret t9) fun counts_ => W.bind2 (m_law_order bag_ counts_) fun t13 bag_ => W.bind (m_law_spots t13) fun t17 => W.bind (W.ret t17) fun spots_ => W.bind (W.ret ([] : (List (P4 Int Int Int Int)))) fun ties_ => W.bind (W.opt (atI ([(13 : Int), (41 : Int)] : (List Int)) great_)) fun t29 => W.bind2 (m_law_draw bag_ t29) fun t31 bag_ => W.guard (rngOk 0 t31) (W.bind (W.forL (rng 0 t31) (bag_, ties_) (fun a s => m_law_record_L1 mode_ counts_ spots_ a s.1 s.2)) (fun s => m_law_record_R1 twice_ counts_ s.1 s.2))
def m_law_copy (record_ : ((List Int) × (List (P4 Int Int Int Int)))) : W (((List Int) × (List (P4 Int Int Int Int)))) :=
  W.ret (record_.1, record_.2)
def m_law_wide_L1 (turn_ : Int) (bag_ : (H5 (List Int) Int Int Int Int)) (counts_ : (List Int)) : W ((H5 (List Int) Int Int Int Int) × (List Int)) :=
  W.bind2 (m_law_draw bag_ ((counts_).length : Int)) fun t62 bag_ => W.bind (popI counts_ t62) fun q => (fun t66 counts_ => W.bind (apd counts_ t66) fun counts_ => W.ret ((bag_, counts_))) q.1 q.2
def m_law_wide_R1 (many_ : Int) (bag_ : (H5 (List Int) Int Int Int Int)) (counts_ : (List Int)) : W (((List Int) × (List (P4 Int Int Int Int))) × (H5 (List Int) Int Int Int Int)) :=
  W.guard (rngOk 0 many_) (W.bind (compSG (rng 0 many_) bag_ (fun a s => (fun turn_ => (fun bag_ => W.bind2 (m_law_note bag_ counts_) fun t71 bag_ => W.ret (some t71, bag_)) s) a)) fun q => (fun t78 bag_ => W.bind (W.ret t78) fun ties_ => W.bind (W.opt (getAll ties_)) fun t83 => W.ret ((counts_, t83), bag_)) q.1 q.2)
def m_law_wide (bag_ : (H5 (List Int) Int Int Int Int)) : W (((List Int) × (List (P4 Int Int Int Int))) × (H5 (List Int) Int Int Int Int)) :=
  W.bind2 (m_law_draw bag_ (10 : Int)) fun t1 bag_ => W.bind (W.ret t1) fun size_ => W.bind2 (m_law_draw bag_ (3 : Int)) fun t5 bag_ => W.bind (W.ret t5) fun many_ => W.bind (W.opt (atI ([([(39 : Int), (49 : Int)] : (List Int)), ([(28 : Int), (68 : Int)] : (List Int)), ([(24 : Int), (79 : Int)] : (List Int)), ([(4 : Int), (19 : Int), (19 : Int)] : (List Int)), ([(1 : Int), (9 : Int), (9 : Int), (9 : Int)] : (List Int)), ([(2 : Int), (22 : Int), (28 : Int)] : (List Int)), ([(1 : Int), (1 : Int), (4 : Int), (9 : Int), (9 : Int)] : (List Int)), ([(9 : Int), (199 : Int)] : (List Int)), ([(1 : Int), (1 : Int), (1 : Int), (1 : Int), (4 : Int), (4 : Int), (4 : Int)] : (List Int)), ([(2 : Int), (2 : Int), (2 : Int), (2 : Int), (4 : Int), (4 : Int)] : (List Int))] : (List (List Int))) size_)) fun t52 => W.bind (W.ret t52) fun counts_ => W.bind2 (m_law_draw bag_ (8 : Int)) fun t57 bag_ => W.guard (rngOk 0 t57) (W.bind (W.forL (rng 0 t57) (bag_, counts_) (fun a s => m_law_wide_L1 a s.1 s.2)) (fun s => m_law_wide_R1 many_ s.1 s.2))
def m_law_layer_L1 (here_ : (Dc (Tp Int) Int)) (counts_ : (List Int)) (now_ : (Tp Int)) (held_ : (List Int)) (hand_ : Int) (there_ : (Dc (Tp Int) Int)) : W ((Dc (Tp Int) Int)) :=
  W.bind (W.opt (atI now_.l hand_)) fun t37 => W.bind (W.opt (atI counts_ hand_)) fun t39 => W.bind (W.ite (decide (t37 < t39)) (W.guard (okD hand_ ∧ okD held_) (W.ret (!inD hand_ held_))) (W.ret false)) (fun t41 => W.bind (W.ite t41 (W.guard (rngOk 0 ((counts_).length : Int)) (W.bind (compG (rng 0 ((counts_).length : Int)) (fun k_ => W.ret true) (fun k_ => W.bind (W.opt (atI now_.l k_)) fun t47 => W.ret (t47 + (if (decide (k_ = hand_)) then (1 : Int) else 0)))) fun t52 => W.bind (W.ret (⟨t52⟩ : (Tp Int))) fun after_ => W.bind (W.opt (valM here_ now_)) fun t59 => W.bind (putG there_ after_ (((valM there_ after_).getD (0 : Int)) + t59)) fun there_ => W.ret (there_))) (W.ret (there_))) (fun s => (fun there_ => W.ret (there_)) s))
def m_law_layer_L2 (here_ : (Dc (Tp Int) Int)) (counts_ : (List Int)) (ties_ : (List (P4 Int Int Int Int))) (now_ : (Tp Int)) (there_ : (Dc (Tp Int) Int)) : W ((Dc (Tp Int) Int)) :=
  W.bind (compG ties_ (fun tie_ => W.bind (W.opt (atI now_.l tie_.c)) fun t17 => W.bind (W.ite (decide (tie_.d = t17)) (W.bind (W.opt (atI now_.l tie_.a)) fun t21 => W.ret (decide (tie_.b ≥ t21))) (W.ret false)) (fun t23 => W.ret t23)) (fun tie_ => W.ret tie_.c)) fun t31 => W.bind (W.ret t31) fun held_ => W.guard (rngOk 0 ((counts_).length : Int)) (W.bind (W.forL (rng 0 ((counts_).length : Int)) there_ (fun a s => m_law_layer_L1 here_ counts_ now_ held_ a s)) (fun s => (fun there_ => W.ret (there_)) s))
def m_law_layer (record_ : ((List Int) × (List (P4 Int Int Int Int)))) (here_ : (Dc (Tp Int) Int)) : W ((Dc (Tp Int) Int)) :=
  W.bind (W.ret record_) fun u => (fun counts_ ties_ => W.bind (W.ret ([] : (Dc (Tp Int) Int))) fun there_ => W.bind (srtD here_) fun t9 => W.bind (W.forL t9 there_ (fun a s => m_law_layer_L2 here_ counts_ ties_ a s)) (fun s => (fun there_ => W.ret there_) s)) u.1 u.2
def m_law_counted_L1 (record_ : ((List Int) × (List (P4 Int Int Int Int)))) (step_ : Int) (here_ : (Dc (Tp Int) Int)) (many_ : Int) : W ((Dc (Tp Int) Int) × Int) :=
  W.bind (W.ite (decide (many_ < (5001 : Int))) (W.bind (m_law_layer record_ here_) fun t17 => W.bind (W.ret t17) fun here_ => W.bind (W.ret (many_ + ((here_).length : Int))) fun many_ => W.ret ((here_, many_))) (W.ret ((here_, many_)))) (fun s => (fun here_ many_ => W.ret ((here_, many_))) s.1 s.2)
def m_law_counted (record_ : ((List Int) × (List (P4 Int Int Int Int)))) : W ((Int × Int)) :=
  W.guard (repG ([(0 : Int)] : (List Int)) ((record_.1).length : Int)) (W.bind (W.ret ([((⟨(repL ([(0 : Int)] : (List Int)) ((record_.1).length : Int))⟩ : (Tp Int)), (1 : Int))] : (Dc (Tp Int) Int))) fun here_ => W.bind (W.ret (1 : Int)) fun many_ => W.guard (rngOk 0 ((record_.1).sum)) (W.bind (W.forL (rng 0 ((record_.1).sum)) (here_, many_) (fun a s => m_law_counted_L1 record_ a s.1 s.2)) (fun s => (fun here_ many_ => W.bind (W.ite ((valM here_ (⟨record_.1⟩ : (Tp Int))).isSome) (W.ret ((here_.map fun x => x.2).sum)) (W.ret (0 : Int))) (fun t26 => W.ret (many_, t26))) s.1 s.2)))
def m_law_cuts (record_ : ((List Int) × (List (P4 Int Int Int Int)))) (kind_ : Int) (limit_ : Int) : W ((Option Int)) :=
  W.bind (W.ret (none : (Option Int))) fun found_ => W.bind (W.exm (W.ite (decide (kind_ = (0 : Int))) (W.exm (m_how_many_cuts record_ (2000 : Int)) (fun t2 => W.bind (W.ret (some t2)) fun found_ => W.ret (Ex.ok found_)) (fun er => W.ret (Ex.er er))) (W.ite (decide (kind_ = (1 : Int))) (W.exm (m_how_many_cuts record_ limit_) (fun t6 => W.bind (W.ret (some t6)) fun found_ => W.ret (Ex.ok found_)) (fun er => W.ret (Ex.er er))) (W.exm (m_how_many_cuts record_ limit_) (fun t10 => W.bind (W.ret (some t10)) fun found_ => W.ret (Ex.ok found_)) (fun er => W.ret (Ex.er er))))) W.ret fun er => W.guard (sub_TooMany er.cls = true) (W.bind (W.ret (none : (Option Int))) fun found_ => W.ret found_)) (fun s => (fun found_ => W.ret found_) s)
def m_law_orders (record_ : ((List Int) × (List (P4 Int Int Int Int)))) (kind_ : Int) (limit_ : Int) : W ((Option Int)) :=
  W.bind (W.ret (none : (Option Int))) fun found_ => W.bind (W.exm (W.ite (decide (kind_ = (0 : Int))) (W.exm (m_how_many_orders record_ (2000 : Int)) (fun t2 => W.bind (W.ret (some t2)) fun found_ => W.ret (Ex.ok found_)) (fun er => W.ret (Ex.er er))) (W.ite (decide (kind_ = (1 : Int))) (W.exm (m_how_many_orders record_ limit_) (fun t6 => W.bind (W.ret (some t6)) fun found_ => W.ret (Ex.ok found_)) (fun er => W.ret (Ex.er er))) (W.exm (m_how_many_orders record_ limit_) (fun t10 => W.bind (W.ret (some t10)) fun found_ => W.ret (Ex.ok found_)) (fun er => W.ret (Ex.er er))))) W.ret fun er => W.guard (sub_TooMany er.cls = true) (W.bind (W.ret (none : (Option Int))) fun found_ => W.ret found_)) (fun s => (fun found_ => W.ret found_) s)
def m_law_is (found_ : (Option Int)) (due_ : (Option Int)) : W (Bool) :=
  W.guard (∀ b, due_ = some b → toPy b ≠ .none) (W.ite (due_.isNone) (W.guard (∀ b, found_ = some b → toPy b ≠ .none) (W.ret (found_.isNone))) (W.bind (W.ite (if found_.isSome then true else false) (W.bind (W.ite (!(if found_.isSome then false else false)) (W.guard (okD found_ ∧ okD due_) (W.ret (eqD found_ due_))) (W.ret false)) (fun t1 => W.ret t1)) (W.ret false)) (fun t5 => W.ret t5)))
def m_law_R1 (kind_ : Int) (limit_ : Int) (record_ : ((List Int) × (List (P4 Int Int Int Int)))) (handed_ : ((List Int) × (List (P4 Int Int Int Int)))) (due_ : (List (Option Int))) : W (Bool) :=
  W.bind (m_law_cuts handed_ kind_ limit_) fun t69 => W.bind (W.opt (atI due_ (0 : Int))) fun t73 => W.bind (m_law_is t69 t73) fun t75 => W.bind (W.ite (!t75) (W.ret true) (W.bind (m_law_orders handed_ kind_ limit_) fun t79 => W.bind (W.opt (atI due_ (1 : Int))) fun t83 => W.bind (m_law_is t79 t83) fun t85 => W.ret (!t85))) (fun t89 => W.ite t89 (W.ret false) (W.guard (okD handed_ ∧ okD record_) (W.ret (eqD handed_ record_))))
def m_law_R2 (kind_ : Int) (record_ : ((List Int) × (List (P4 Int Int Int Int)))) (many_ : Int) (orders_ : Int) (limit_ : Int) : W (Bool) :=
  W.bind (m_law_copy record_) fun t46 => W.bind (W.ret t46) fun handed_ => W.bind (W.ret ([(none : (Option Int)), (none : (Option Int))] : (List (Option Int)))) fun due_ => W.bind (W.opt (atI ([limit_, (2000 : Int)] : (List Int)) (if (decide (kind_ = (0 : Int))) then (1 : Int) else 0))) fun t60 => W.bind (W.ite (decide (many_ ≤ t60)) (W.bind (W.ret ([(some many_), (some orders_)] : (List (Option Int)))) fun due_ => W.ret (due_)) (W.ret (due_))) (fun s => m_law_R1 kind_ limit_ record_ handed_ s)
def m_law (script_ : (List Int)) : W (Bool) :=
  W.bind (m_law_bag script_) fun t1 => W.bind (W.ret t1) fun bag_ => W.bind2 (m_law_draw bag_ (8 : Int)) fun t5 bag_ => W.bind (W.ret t5) fun size_ => W.bind2 (m_law_draw bag_ (3 : Int)) fun t9 bag_ => W.bind (W.ret t9) fun kind_ => W.bind2 (m_law_draw bag_ (5 : Int)) fun t13 bag_ => W.bind (W.ret t13) fun bound_ => W.bind2 (m_law_draw bag_ (5001 : Int)) fun t17 bag_ => W.bind (W.ret t17) fun limit_ => W.bind (W.ite (decide (size_ > (4 : Int))) (W.bind2 (m_law_wide bag_) fun t21 bag_ => W.ret (t21, bag_)) (W.bind2 (m_law_record bag_ (if (decide (size_ = (4 : Int))) then (1 : Int) else 0)) fun t25 bag_ => W.ret (t25, bag_))) (fun s => (fun t29 bag_ => W.bind (W.ret t29) fun record_ => W.bind (m_law_counted record_) fun t33 => W.bind (W.ret t33) fun u => (fun many_ orders_ => W.bind (W.ite (decide (bound_ > (0 : Int))) (W.bind (W.opt (atI ([(2000 : Int), (many_ - (1 : Int)), many_, (many_ + (1 : Int))] : (List Int)) (bound_ - (1 : Int)))) fun t43 => W.bind (W.ret (if (if t43 < (5000 : Int) then t43 else (5000 : Int)) > (0 : Int) then (if t43 < (5000 : Int) then t43 else (5000 : Int)) else (0 : Int))) fun limit_ => W.ret (limit_)) (W.ret (limit_))) (fun s => m_law_R2 kind_ record_ many_ orders_ s)) u.1 u.2) s.1 s.2)
end M

/-! # general ways -/
namespace M
open PySem L2 Z
theorem rng_mem {a b x : Int} : x ∈ rng a b ↔ a ≤ x ∧ x < b := by
  unfold rng
  rw [List.mem_map]
  constructor
  · rintro ⟨k, hk, rfl⟩
    rw [List.mem_range] at hk
    omega
  · rintro ⟨h1, h2⟩
    exact ⟨(x - a).toNat, by rw [List.mem_range]; omega, by omega⟩
theorem rng_pw (a b : Int) : (rng a b).Pairwise (· < ·) := by
  unfold rng
  rw [List.pairwise_map]
  exact List.pairwise_lt_range.imp fun h => by omega
theorem take_snocN {α : Type} {xs : List α} {i : Nat} {x : α} (h : xs[i]? = some x) : xs.take (i + 1) = xs.take i ++ [x] := by
  rw [List.take_add_one, h]
  rfl
theorem at_head {α : Type} {x : α} {l : List α} : atI (x :: l) (0 : Int) = some x := atI_nat (j := 0) rfl
theorem at_last {α : Type} {x : α} {l : List α} : atI (l ++ [x]) (-(1 : Int)) = some x := atI_last l x
/-- a loop that is left at last -/
theorem while_wp {S ρ : Type} (Inv : S → Prop) (μ : S → Nat) {s : S} {f : S → W (Ctl ρ S)} {Φ : Ctl ρ S → Prop} (h0 : Inv s)
    (step : ∀ s, Inv s → (f s).run (CtlP (fun s' => Inv s' ∧ μ s' < μ s) (fun s' => Φ (.nx s')) (fun r => Φ (.rt r)))) : (W.whileL s f).run Φ := by
  have key : ∀ m s, Inv s → μ s < m → (W.whileN m s f).run Φ := by
    intro m
    induction m with
    | zero => intro s _ h; omega
    | succ m ih =>
      intro s hs hm
      show (W.bind (f s) _).run Φ
      rw [run_bind]
      refine run_mono (step s hs) fun c hc => ?_
      cases c with
      | nx s' => exact ih s' hc.1 (by have := hc.2; omega)
      | bk s' => exact hc
      | rt r => exact hc
  exact ⟨μ s + 1, key _ s h0 (Nat.lt_succ_self _)⟩
/-- a loop that is left where a test holds -/
theorem forC_any {α ρ : Type} {xs : List α} {f : α → Unit → W (Ctl ρ Unit)} (t : α → Bool) (r : ρ) {Φ : Ctl ρ Unit → Prop} (hf : ∀ x ∈ xs, ∀ Ψ : Ctl ρ Unit → Prop, Ψ (if t x = true then .rt r else .nx ()) → (f x ()).run Ψ)
    (k : Φ (if xs.any t = true then .rt r else .nx ())) : (W.forC xs () f).run Φ := by
  induction xs with
  | nil => exact k
  | cons x xs ih =>
    show (W.bind (f x ()) _).run Φ
    rw [run_bind]
    refine hf x List.mem_cons_self _ ?_
    rw [List.any_cons] at k
    by_cases c : t x = true
    · rw [if_pos c]
      rw [c, Bool.true_or, if_pos rfl] at k
      exact k
    · rw [if_neg c]
      rw [Bool.not_eq_true] at c
      rw [c, Bool.false_or] at k
      exact ih (fun y hy => hf y (List.mem_cons_of_mem _ hy)) k
theorem popI_wp {α : Type} {xs : List α} {i : Nat} {Φ : α × List α → Prop} (h : i < xs.length) (hl : xs.length ≤ 100000) (k : Φ (xs[i], xs.eraseIdx i)) : (popI xs (i : Int)).run Φ :=
  ⟨⟨by omega, by omega⟩, i, by rw [ixN_nat' (by omega) (by omega), Int.toNat_natCast], xs[i], List.getElem?_eq_getElem h, k⟩
theorem mnD_cases (xs : List Int) (d : Int) : (xs = [] ∧ mnD xs d = d) ∨ (mnD xs d ∈ xs ∧ ∀ y ∈ xs, mnD xs d ≤ y) := by
  cases xs with
  | nil => exact .inl ⟨rfl, rfl⟩
  | cons x xs => exact .inr (mnF xs x)
theorem mxD_cases (xs : List Int) (d : Int) : (xs = [] ∧ mxD xs d = d) ∨ (mxD xs d ∈ xs ∧ ∀ y ∈ xs, y ≤ mxD xs d) := by
  cases xs with
  | nil => exact .inl ⟨rfl, rfl⟩
  | cons x xs => exact .inr (mxF xs x)
/-- a comprehension that carries a state -/
theorem compSG_wp {α β S : Type} {xs : List α} {s : S} {f : α → S → W (Option β × S)} (Inv : Nat → S → List β → Prop) {Φ : List β × S → Prop} (hl : xs.length ≤ sizeLine) (h0 : Inv 0 s [])
    (step : ∀ i x s acc, xs[i]? = some x → Inv i s acc → (f x s).run fun r => match r.1 with | none => Inv (i + 1) r.2 acc | some y => Inv (i + 1) r.2 (acc ++ [y])) (k : ∀ s acc, Inv xs.length s acc → Φ (acc, s)) : (compSG xs s f).run Φ := by
  refine ⟨hl, ?_⟩
  have key : ∀ (ys : List α) (i : Nat) (s : S) (acc : List β), (∀ j x, ys[j]? = some x → xs[i + j]? = some x) → i + ys.length = xs.length → Inv i s acc → (compS ys acc s f).run Φ := by
    intro ys
    induction ys with
    | nil =>
      intro i s acc _ e h
      exact k s acc (by rw [← e]; exact h)
    | cons y ys ih =>
      intro i s acc hx e h
      show (W.bind (f y s) _).run Φ
      rw [run_bind]
      refine run_mono (step i y s acc (hx 0 y rfl) h) fun r hr => ?_
      obtain ⟨o, s'⟩ := r
      have hx' : ∀ j x, ys[j]? = some x → xs[i + 1 + j]? = some x := fun j x q => by rw [Nat.add_right_comm]; exact hx (j + 1) x q
      have e' : i + 1 + ys.length = xs.length := by rw [← e]; simp; omega
      cases o with
      | none => exact ih (i + 1) s' acc hx' e' hr
      | some z => exact ih (i + 1) s' (acc ++ [z]) hx' e' hr
  exact key xs 0 s [] (fun j x q => by rw [Nat.zero_add]; exact q) (by omega) h0
end M

/-! # dicts as lists of pairs -/
namespace M
open PySem L2 Z
section
variable {κ α : Type} [DecidableEq κ]
theorem valM_cons {k j : κ} {a : α} {m : Dc κ α} : valM ((k, a) :: m) j = if k = j then some a else valM m j := by
  unfold valM
  rw [List.find?_cons]
  by_cases c : k = j <;> simp [c]
theorem valM_map {k j : κ} {a : α} : ∀ {m : Dc κ α}, valM (m.map fun p => if p.1 = k then (p.1, a) else p) j = (valM m j).map fun x => if j = k then a else x
  | [] => rfl
  | (q, b) :: m => by
    have ih := valM_map (k := k) (j := j) (a := a) (m := m)
    rw [List.map_cons]
    by_cases c : q = k
    · rw [if_pos c, valM_cons, valM_cons]
      by_cases d : q = j
      · rw [if_pos d, if_pos d, Option.map_some, if_pos (d.symm.trans c)]
      · rw [if_neg d, if_neg d, ih]
    · rw [if_neg c, valM_cons, valM_cons]
      by_cases d : q = j
      · rw [if_pos d, if_pos d, Option.map_some, if_neg (fun e => c (d.trans e))]
      · rw [if_neg d, if_neg d, ih]
theorem valM_snoc {k j : κ} {a : α} : ∀ {m : Dc κ α}, valM m k = none → valM (m ++ [(k, a)]) j = if j = k then some a else valM m j
  | [], _ => by
    rw [List.nil_append, valM_cons]
    by_cases c : k = j
    · rw [if_pos c, if_pos c.symm]
    · rw [if_neg c, if_neg (fun e => c e.symm)]
  | (q, b) :: m, h => by
    rw [valM_cons] at h
    by_cases c : q = k
    · rw [if_pos c] at h; cases h
    · rw [if_neg c] at h
      rw [List.cons_append, valM_cons, valM_cons, valM_snoc h]
      by_cases d : q = j
      · rw [if_pos d, if_pos d, if_neg (fun e => c (d.trans e))]
      · rw [if_neg d, if_neg d]
theorem anyM {k : κ} : ∀ {m : Dc κ α}, (m.any fun p => decide (p.1 = k)) = (valM m k).isSome
  | [] => rfl
  | (q, b) :: m => by
    rw [List.any_cons, anyM, valM_cons]
    by_cases c : q = k
    · simp [c]
    · simp [c]
theorem valM_put {k j : κ} {a : α} {m : Dc κ α} : valM (putM m k a) j = if j = k then some a else valM m j := by
  unfold putM
  rw [anyM]
  cases e : valM m k with
  | none => exact valM_snoc e
  | some b =>
    show valM (m.map fun p => if p.1 = k then (p.1, a) else p) j = _
    rw [valM_map]
    by_cases c : j = k
    · subst c
      rw [e, if_pos rfl, Option.map_some, if_pos rfl]
    · rw [if_neg c]
      cases valM m j with
      | none => rfl
      | some x => simp [c]
theorem putM_len {k : κ} {a : α} {m : Dc κ α} : (putM m k a).length ≤ m.length + 1 := by
  unfold putM
  split
  · rw [List.length_map]; omega
  · rw [List.length_append]; exact Nat.le_refl _
theorem putG_wp {k : κ} {a : α} {m : Dc κ α} {Φ : Dc κ α → Prop} (h : m.length ≤ 100000) (q : Φ (putM m k a)) : (putG m k a).run Φ := ⟨small' h, q⟩
end
end M

/-! # the bag: draws, records -/
namespace M
open PySem L2 Z
abbrev Bag := H5 (List Int) Int Int Int Int
abbrev NT4 := P4 Int Int Int Int
def BagOk (B : Nat) (s : Bag) : Prop := 0 ≤ s.b ∧ s.b ≤ s.a.length ∧ 0 ≤ s.d ∧ s.d ≤ B ∧ 0 ≤ s.e ∧ s.e < 2305843009213693951
theorem BagOk.mo {B C : Nat} {s : Bag} (h : BagOk B s) (hc : B ≤ C) : BagOk C s := ⟨h.1, h.2.1, h.2.2.1, by have := h.2.2.2.1; omega, h.2.2.2.2⟩
theorem cpow18 : CPow (10 : Int) (18 : Int) := by unfold CPow; decide
theorem stir_wp {n p : Int} {Φ : Int → Prop} (hn0 : 0 ≤ n) (hn : n < 2305843009213693951) (hp0 : 0 ≤ p) (hp : p < 2 ^ 41) (k : ∀ x, Φ x) : (m_law_stir n p).run Φ := by
  unfold m_law_stir
  simp only [run_bind, run_rt, run_guard]
  have p0 : (0 : Int) < 2305843009213693951 := by decide
  refine ⟨wide_mul (a := 61) (b := 30) (by omega) (by decide) (by decide) (by decide) (by decide), wide_mul (a := 41) (b := 30) (by omega) (by decide) (by decide) (by decide) (by decide), ?_⟩
  have o1 := Int.emod_nonneg (n * 998244353 + p * 1000000007 + 5) (b := 2305843009213693951) (by decide)
  have o2 := Int.emod_lt_of_pos (n * 998244353 + p * 1000000007 + 5) p0
  generalize (n * 998244353 + p * 1000000007 + 5) % 2305843009213693951 = one at o1 o2 ⊢
  refine ⟨wide_mul (a := 61) (b := 61) (by omega) (by omega) (by decide) (by decide) (by decide), ?_⟩
  have t1 := Int.emod_nonneg (one * one) (b := 2305843009213693951) (by decide)
  have t2 := Int.emod_lt_of_pos (one * one) p0
  generalize (one * one) % 2305843009213693951 = two at t1 t2 ⊢
  have pp : (p * p).natAbs < 2 ^ 82 := by
    rw [Int.natAbs_mul]
    have : p.natAbs < 2 ^ 41 := by omega
    exact Nat.lt_of_lt_of_le (Nat.mul_lt_mul'' this this) (by decide)
  exact ⟨wide_mul (a := 61) (b := 32) (by omega) (by decide) (by decide) (by decide) (by decide), wide_mul (a := 41) (b := 41) (by omega) (by omega) (by decide) (by decide) (by decide), wide_mul (a := 82) (b := 16) pp (by decide) (by decide) (by decide) (by decide),
    wide_div (b := 2) (by decide) (by decide) (by decide) (by decide), wide_div (b := 11) (by decide) (by decide) (by decide) (by decide), k _⟩
theorem draw_wp {B : Nat} {s : Bag} {many : Int} {Φ : Int × Bag → Prop} (hs : BagOk B s) (hB : B < 2 ^ 40) (h0 : 0 < many) (hm : many < 2 ^ 100)
    (k : ∀ x s', 0 ≤ x → x < many → BagOk (B + 1) s' → Φ (x, s')) : (m_law_draw s many).run Φ := by
  obtain ⟨a, b, c, d, e⟩ := s
  obtain ⟨b0, b1, d0, d1, e0, e1⟩ := hs
  dsimp only at b0 b1 d0 d1 e0 e1
  have hmn : many.natAbs < 2 ^ 100 := by omega
  have cd : ∀ x : Int, CDivW x many := fun x => wide_div h0 hmn (by decide) (by decide)
  have lo : ∀ x : Int, 0 ≤ x % many := fun x => Int.emod_nonneg _ (by omega)
  have hi : ∀ x : Int, x % many < many := fun x => Int.emod_lt_of_pos _ h0
  unfold m_law_draw
  simp only [run_bind, run_rt, run_guard, run_if, run_opt, decide_eq_true_eq]
  split
  · exact k _ _ (Int.le_refl _) (by omega) ⟨b0, b1, d0, by show d ≤ ((B + 1 : Nat) : Int); omega, e0, e1⟩
  · by_cases hc : c < 2
    · rw [if_pos hc, if_pos hc]
      by_cases hb : b = (a.length : Int)
      · rw [if_pos hb]
        exact stir_wp e0 e1 (by omega) (by omega) fun x => ⟨h0, k _ _ (lo _) (hi _) ⟨b0, b1, by show 0 ≤ d + 1; omega, by show d + 1 ≤ ((B + 1 : Nat) : Int); omega, e0, e1⟩⟩
      · rw [if_neg hb]
        obtain ⟨cell, _, ec⟩ := atI_some (xs := a) (i := b) b0 (by omega)
        refine ⟨cell, ec, cpow18, ?_⟩
        have p0 : (0 : Int) < 2305843009213693951 := by decide
        split
        · refine stir_wp (Int.emod_nonneg _ (by decide)) (Int.emod_lt_of_pos _ p0) (by omega) (by omega) fun x => ⟨h0, ?_⟩
          simp only [W.after, run_rt]
          exact k _ _ (lo _) (hi _) ⟨by show 0 ≤ b + 1; omega, by show b + 1 ≤ (a.length : Int); omega, by show 0 ≤ d + 1; omega, by show d + 1 ≤ ((B + 1 : Nat) : Int); omega, e0, e1⟩
        · refine ⟨cpow18, ?_⟩
          simp only [W.after, run_rt, run_guard, run_bind]
          exact ⟨h0, cd _, k _ _ (lo _) (hi _) ⟨by show 0 ≤ b + 1; omega, by show b + 1 ≤ (a.length : Int); omega, by show 0 ≤ d + 1; omega, by show d + 1 ≤ ((B + 1 : Nat) : Int); omega, e0, e1⟩⟩
    · rw [if_neg hc, if_neg hc]
      simp only [Bool.false_eq_true, if_false, W.after, run_rt, run_guard, run_bind]
      exact ⟨h0, cd _, k _ _ (lo _) (hi _) ⟨b0, b1, by show 0 ≤ d + 1; omega, by show d + 1 ≤ ((B + 1 : Nat) : Int); omega, e0, e1⟩⟩
theorem bag_wp {ns : List Int} {Φ : Bag → Prop} (k : ∀ s, BagOk 0 s → Φ s) : (m_law_bag ns).run Φ := by
  unfold m_law_bag
  simp only [run_bind, run_rt]
  have p0 : (0 : Int) < 2305843009213693951 := by decide
  refine forL_wp (fun _ t => 0 ≤ t ∧ t < 2305843009213693951) ⟨by decide, by decide⟩ ?_ ?_
  · rintro i x t _ ⟨h1, h2⟩
    unfold m_law_bag_L1
    simp only [run_bind, run_rt, run_guard]
    exact ⟨wide_mul (a := 61) (b := 20) (by omega) (by decide) (by decide) (by decide) (by decide), Int.emod_nonneg _ (by decide), Int.emod_lt_of_pos _ p0⟩
  · rintro t ⟨h1, h2⟩
    exact k _ ⟨Int.le_refl _, by show (0 : Int) ≤ _; omega, Int.le_refl _, Int.le_refl _, h1, h2⟩
/-! lists by places -/
def lAt (l : List Int) (x : Int) : Int := l.getD x.toNat 0
theorem l_at {l : List Int} {x : Int} (h0 : 0 ≤ x) (h : x < l.length) : atI l x = some (lAt l x) := by
  refine atI_get' h0 ?_
  unfold lAt
  rw [List.getD_eq_getElem?_getD, List.getElem?_eq_getElem (by omega)]
  rfl
theorem lAt_mem {l : List Int} {x : Int} (h0 : 0 ≤ x) (h : x < l.length) : lAt l x ∈ l := by
  unfold lAt
  rw [List.getD_eq_getElem?_getD, List.getElem?_eq_getElem (by omega)]
  exact List.getElem_mem _
theorem lAt_set {l : List Int} {x y v : Int} (h0 : 0 ≤ x) (h : x < l.length) (hy : 0 ≤ y) : lAt (l.set x.toNat v) y = if y = x then v else lAt l y := by
  unfold lAt
  rw [List.getD_eq_getElem?_getD, List.getD_eq_getElem?_getD, List.getElem?_set]
  by_cases c : y = x
  · subst c
    rw [if_pos rfl, if_pos (by omega), if_pos rfl]
    rfl
  · rw [if_neg (by omega), if_neg c]
/-- counts -/
structure CtOk (cs : List Int) : Prop where
  len : cs.length ≤ 8
  nn : ∀ c ∈ cs, 0 ≤ c
  sum : cs.sum ≤ 300
theorem sum_le {n : Nat} {m : Int} (hm : 0 ≤ m) : ∀ {l : List Int}, (∀ c ∈ l, c ≤ m) → l.length ≤ n → l.sum ≤ n * m
  | [], _, _ => by simpa using Int.mul_nonneg (Int.natCast_nonneg n) hm
  | c :: l, h, hl => by
    cases n with
    | zero => simp at hl
    | succ n =>
      have := sum_le (n := n) hm (fun c hc => h c (List.mem_cons_of_mem _ hc)) (by simpa using hl)
      have := h c List.mem_cons_self
      rw [List.sum_cons]
      have e : ((n + 1 : Nat) : Int) * m = n * m + m := by rw [Int.natCast_add, Int.add_mul]; simp
      omega
theorem sum_nn : ∀ {l : List Int}, (∀ c ∈ l, 0 ≤ c) → 0 ≤ l.sum
  | [], _ => Int.le_refl _
  | c :: l, h => by
    have := sum_nn fun c hc => h c (List.mem_cons_of_mem _ hc)
    have := h c List.mem_cons_self
    rw [List.sum_cons]; omega
theorem le_sum : ∀ {l : List Int}, (∀ c ∈ l, 0 ≤ c) → ∀ {x}, x ∈ l → x ≤ l.sum
  | c :: l, h, x, hx => by
    have n := sum_nn fun c hc => h c (List.mem_cons_of_mem _ hc)
    have := h c List.mem_cons_self
    rw [List.sum_cons]
    rcases List.mem_cons.mp hx with rfl | q
    · omega
    · have := le_sum (fun c hc => h c (List.mem_cons_of_mem _ hc)) q; omega
theorem draws_wp {B : Nat} {s : Bag} {n top : Int} {Φ : List Int × Bag → Prop} (hs : BagOk B s) (hB : B < 2 ^ 39) (hn : n ≤ 8) (h0 : 0 < top) (hm : top < 2 ^ 60)
    (k : ∀ l s', l.length = n.toNat → (∀ c ∈ l, 0 ≤ c ∧ c < top) → BagOk (B + 8) s' → Φ (l, s')) : (compSG (rng 0 n) s (fun a s => (fun hand_ => (fun bag_ => W.bind2 (m_law_draw bag_ top) fun t13 bag_ => W.ret (some t13, bag_)) s) a)).run Φ := by
  refine compSG_wp (fun i s acc => BagOk (B + i) s ∧ acc.length = i ∧ ∀ c ∈ acc, 0 ≤ c ∧ c < top) (small (by rw [rng_len]; omega)) ⟨hs, rfl, by simp⟩ ?_ ?_
  · rintro i x s acc hx ⟨q1, q2, q3⟩
    have hi := (List.getElem?_eq_some_iff.mp hx).1
    rw [rng_len] at hi
    simp only [run_bind2, run_rt]
    refine draw_wp q1 (by omega) h0 (by omega) fun t s1 a1 a2 hs1 => ⟨hs1, by simp [q2], fun c hc => ?_⟩
    rcases List.mem_append.mp hc with z | z
    · exact q3 c z
    · rw [List.mem_singleton.mp z]; exact ⟨a1, a2⟩
  · rintro s acc ⟨q1, q2, q3⟩
    rw [rng_len] at q1 q2
    exact k acc s (by omega) q3 (q1.mo (by omega))
theorem counts_wp {B : Nat} {s : Bag} {great : Int} {Φ : List Int × Bag → Prop} (hs : BagOk B s) (hB : B < 2 ^ 38) (k : ∀ cs s', CtOk cs → BagOk (B + 10) s' → Φ (cs, s')) : (m_law_counts s great).run Φ := by
  unfold m_law_counts
  simp only [run_bind, run_bind2, run_rt, run_guard, run_if, run_opt]
  split
  · refine draw_wp hs (by omega) (by decide) (by decide) fun t s1 a1 a2 hs1 => ?_
    dsimp only
    obtain ⟨n, hn, en⟩ := atI_some (xs := [(3 : Int), 2, 4, 2, 3, 1, 0]) a1 (by simpa using a2)
    have hn4 : 0 ≤ n ∧ n ≤ 4 := by
      simp only [List.mem_cons, List.not_mem_nil, or_false] at hn
      omega
    refine ⟨n, en, ⟨by decide, by decide, by omega, by omega⟩, ?_⟩
    refine draws_wp hs1 (by omega) (by omega) (by decide) (by decide) fun l s2 l1 l2 hs2 => ?_
    refine k l s2 ⟨by omega, fun c hc => (l2 c hc).1, ?_⟩ (hs2.mo (by omega))
    have := sum_le (n := 8) (m := 6) (by decide) (fun c hc => by have := (l2 c hc).2; omega) (show l.length ≤ 8 by omega)
    omega
  · refine draw_wp hs (by omega) (by decide) (by decide) fun few s1 a1 a2 hs1 => ?_
    refine draw_wp hs1 (by omega) (by decide) (by decide) fun t s2 b1 b2 hs2 => ?_
    dsimp only
    generalize hmx : (if (8 : Int) - t > 1 then (8 : Int) - t else 1) = mx
    have hmx1 : 1 ≤ mx ∧ mx ≤ 8 ∧ 8 - t ≤ mx := by rw [← hmx]; split <;> omega
    refine ⟨wide_div (b := 4) (by omega) (by omega) (by decide) (by decide), ?_⟩
    obtain ⟨top, ht, et⟩ := atI_some (xs := [(300 : Int) / mx + 1, 4]) a1 (by simpa using a2)
    have hd : 0 ≤ (300 : Int) / mx := Int.ediv_nonneg (by decide) (by omega)
    have hd2 : (300 : Int) / mx ≤ 300 := Int.ediv_le_self _ (by decide)
    have hd3 : mx * ((300 : Int) / mx) ≤ 300 := Int.mul_ediv_self_le (by omega)
    refine ⟨top, et, ⟨by decide, by decide, by omega, by omega⟩, ?_⟩
    have htop : top = 300 / mx + 1 ∨ top = 4 := by simpa using ht
    refine draws_wp hs2 (by omega) (by omega) (by omega) (by omega) fun l s3 l1 l2 hs3 => ?_
    refine k l s3 ⟨by omega, fun c hc => (l2 c hc).1, ?_⟩ (hs3.mo (by omega))
    rcases htop with q | q
    · have := sum_le (n := mx.toNat) (m := 300 / mx) hd (fun c hc => by have := (l2 c hc).2; omega) (show l.length ≤ mx.toNat by omega)
      rw [Int.toNat_of_nonneg (by omega)] at this
      omega
    · have := sum_le (n := 8) (m := 3) (by decide) (fun c hc => by have := (l2 c hc).2; omega) (show l.length ≤ 8 by omega)
      omega
/-- how often -/
def cntI (h : Int) (l : List Int) : Nat := l.count h
theorem cntI_snoc {h x : Int} {l : List Int} : cntI h (l ++ [x]) = cntI h l + if x = h then 1 else 0 := by
  unfold cntI
  rw [List.count_append, List.count_singleton]
  by_cases c : x = h <;> simp [c]
theorem set_sum : ∀ {l : List Int} {n : Nat} {v : Int}, n < l.length → (l.set n v).sum = l.sum - l.getD n 0 + v
  | [], _, _, h => by simp at h
  | c :: l, 0, v, _ => by simp; omega
  | c :: l, n + 1, v, h => by
    have := set_sum (l := l) (n := n) (v := v) (by simpa using h)
    simp only [List.set_cons_succ, List.sum_cons, List.getD_cons_succ]
    omega
theorem pos_ex : ∀ {l : List Int}, 0 < l.sum → ∃ n, n < l.length ∧ 0 < l.getD n 0
  | [], h => by simp at h
  | c :: l, h => by
    by_cases q : 0 < c
    · exact ⟨0, by simp, by simpa using q⟩
    · rw [List.sum_cons] at h
      obtain ⟨n, h1, h2⟩ := pos_ex (l := l) (by omega)
      exact ⟨n + 1, by simp; omega, by simpa using h2⟩
theorem order_wp {B : Nat} {s : Bag} {cs : List Int} {Φ : List Int × Bag → Prop} (hs : BagOk B s) (hB : B < 2 ^ 38) (hc : CtOk cs)
    (k : ∀ os s', os.length ≤ 300 → (∀ x : Int, x ∈ os → 0 ≤ x ∧ x < cs.length) → (∀ h : Int, 0 ≤ h → h < cs.length → (cntI h os : Int) = lAt cs h) → BagOk (B + 300) s' → Φ (os, s')) : (m_law_order s cs).run Φ := by
  have hsum0 := sum_nn hc.nn
  have hsum := hc.sum
  unfold m_law_order
  simp only [run_bind, run_rt, run_guard]
  refine ⟨⟨by decide, by decide, by omega, by omega⟩, ?_⟩
  refine forL_wp (fun t q => BagOk (B + t) q.1 ∧ q.2.1.length = cs.length ∧ q.2.1.sum = cs.sum - t ∧ (∀ c ∈ q.2.1, 0 ≤ c) ∧ q.2.2.length = t ∧ (∀ x : Int, x ∈ q.2.2 → 0 ≤ x ∧ x < cs.length) ∧ ∀ h : Int, 0 ≤ h → h < cs.length → (cntI h q.2.2 : Int) + lAt q.2.1 h = lAt cs h)
    ⟨hs, rfl, by simp, hc.nn, rfl, by simp, fun h _ _ => by simp [cntI]⟩ ?_ ?_
  · rintro t x ⟨sp, left, os⟩ hx ⟨q1, q2, q3, q4, q5, q6, q7⟩
    dsimp only at q1 q2 q3 q4 q5 q6 q7
    have ht := (List.getElem?_eq_some_iff.mp hx).1
    rw [rng_len] at ht
    unfold m_law_order_L1
    simp only [run_bind, run_bind2, run_rt, run_guard, run_opt]
    have h8 := hc.len
    refine ⟨⟨by decide, by decide, by omega, by omega⟩, ?_⟩
    refine compG_wp (fun h => decide (lAt left h > 0)) (fun h => h) (small (by rw [rng_len]; omega)) (fun y hy Ψ q => ?_) (fun _ _ _ Ψ q => by exact q) ?_
    · obtain ⟨z1, z2⟩ := rng_mem.mp hy
      simp only [run_bind, run_opt, run_rt, l_at z1 z2, Option.some.injEq, exists_eq_left']
      exact q
    · rw [List.map_id']
      generalize hsm : ((rng 0 (left.length : Int)).filter fun h => decide (lAt left h > 0)) = sm
      have mem : ∀ y, y ∈ sm ↔ 0 ≤ y ∧ y < left.length ∧ 0 < lAt left y := fun y => by
        rw [← hsm, List.mem_filter, rng_mem, decide_eq_true_eq, and_assoc]
      have hl : sm.length ≤ 8 := by
        rw [← hsm]
        refine Nat.le_trans (List.length_filter_le _ _) ?_
        rw [rng_len]; omega
      have hpos : 0 < sm.length := by
        obtain ⟨n, n1, n2⟩ := pos_ex (l := left) (by omega)
        refine List.length_pos_of_mem ((mem (n : Int)).mpr ⟨by omega, by omega, ?_⟩)
        unfold lAt
        rw [Int.toNat_natCast]; exact n2
      refine draw_wp q1 (by omega) (by omega) (by omega) fun d s1 a1 a2 hs1 => ?_
      dsimp only
      obtain ⟨y, hy, ey⟩ := atI_some (xs := sm) a1 a2
      obtain ⟨y1, y2, y3⟩ := (mem y).mp hy
      refine ⟨y, ey, apd_wp (by omega) ⟨y, at_last, lAt left y, l_at y1 y2, y, at_last, ?_⟩⟩
      refine sti_wp y1 y2 ⟨hs1, by rw [List.length_set]; exact q2, ?_, fun c hc' => ?_, by rw [List.length_append, q5]; rfl, fun z hz => ?_, fun h h1 h2 => ?_⟩
      · rw [set_sum (by omega)]
        show left.sum - lAt left y + _ = _
        omega
      · rcases List.mem_or_eq_of_mem_set hc' with z | z
        · exact q4 c z
        · omega
      · rcases List.mem_append.mp hz with w | w
        · exact q6 z w
        · rw [List.mem_singleton.mp w]; exact ⟨y1, by omega⟩
      · rw [cntI_snoc, lAt_set y1 y2 h1]
        have := q7 h h1 h2
        by_cases c : h = y
        · subst c
          rw [if_pos rfl, if_pos rfl]; omega
        · rw [if_neg (fun z => c z.symm), if_neg c]; omega
  · rintro ⟨sp, left, os⟩ ⟨q1, q2, q3, q4, q5, q6, q7⟩
    dsimp only at q1 q2 q3 q4 q5 q6 q7
    rw [rng_len] at q1 q3 q5
    refine k os sp (by omega) q6 (fun h h1 h2 => ?_) (q1.mo (by omega))
    have a := q7 h h1 h2
    have m := lAt_mem (l := left) h1 (by omega)
    have b := le_sum q4 m
    have c := q4 _ m
    omega
theorem spots_wp {os : List Int} {Φ : Dc (Int × Int) Int → Prop} (hl : os.length ≤ 300) (k : ∀ m : Dc (Int × Int) Int, (∀ h j : Int, 0 ≤ j → j < cntI h os → (valM m (h, j)).isSome = true) → Φ m) : (m_law_spots os).run Φ := by
  unfold m_law_spots
  simp only [run_bind, run_rt, run_guard]
  refine ⟨⟨by decide, by decide, by omega, by omega⟩, ?_⟩
  refine forL_wp (fun t q => q.1.length ≤ t ∧ q.2.length ≤ t ∧ (∀ h, (valM q.2 h).getD 0 = (cntI h (os.take t) : Int)) ∧ ∀ h j : Int, 0 ≤ j → j < cntI h (os.take t) → (valM q.1 (h, j)).isSome = true)
    ⟨Nat.le_refl _, Nat.le_refl _, fun h => rfl, fun h j h1 h2 => by have : cntI h (os.take 0) = 0 := rfl; omega⟩ ?_ ?_
  · rintro t x ⟨fd, mn⟩ hx ⟨q1, q2, q3, q4⟩
    dsimp only at q1 q2 q3 q4
    obtain ⟨ht, rfl⟩ := rng_get hx
    have htl : t < os.length := by omega
    rw [Int.zero_add]
    obtain ⟨y, hy⟩ : ∃ y, os[t]? = some y := ⟨os[t], List.getElem?_eq_getElem htl⟩
    unfold m_law_spots_L1
    simp only [run_bind, run_opt, run_rt, atI_nat hy, Option.some.injEq, exists_eq_left']
    rw [q3]
    refine putG_wp (by omega) ⟨_, by rw [valM_put, if_pos rfl], putG_wp (by omega) ⟨?_, ?_, fun h => ?_, fun h j h1 h2 => ?_⟩⟩
    · exact Nat.le_trans putM_len (by omega)
    · exact Nat.le_trans putM_len (by omega)
    · rw [valM_put, take_snocN hy, cntI_snoc]
      by_cases c : h = y
      · subst c
        rw [if_pos rfl, if_pos rfl]; simp
      · rw [if_neg c, if_neg (fun z => c z.symm), q3]; simp
    · rw [take_snocN hy, cntI_snoc] at h2
      rw [valM_put]
      by_cases c : y = h
      · subst c
        rw [if_pos rfl] at h2
        by_cases d : j = (cntI y (os.take t) : Int)
        · rw [if_pos (by rw [d]; congr 1; omega)]; rfl
        · rw [if_neg (fun z => d (by have := congrArg Prod.snd z; dsimp only at this; omega))]
          exact q4 y j h1 (by omega)
      · rw [if_neg c] at h2
        rw [if_neg (fun z => c (congrArg Prod.fst z).symm)]
        exact q4 h j h1 (by omega)
  · rintro ⟨fd, mn⟩ ⟨q1, q2, q3, q4⟩
    rw [rng_len, Int.sub_zero, Int.toNat_natCast, List.take_length] at q4
    exact k fd q4
/-- a note between touches that are there -/
structure NtOk (cs : List Int) (t : NT4) : Prop where
  a0 : 0 ≤ t.a
  a1 : t.a < cs.length
  b0 : 0 ≤ t.b
  b1 : t.b < lAt cs t.a
  c0 : 0 ≤ t.c
  c1 : t.c < cs.length
  d0 : 0 ≤ t.d
  d1 : t.d < lAt cs t.c
  ne : t.a ≠ t.c
theorem NtOk.sw {cs : List Int} {t : NT4} (h : NtOk cs t) : NtOk cs ⟨t.c, t.d, t.a, t.b⟩ := ⟨h.c0, h.c1, h.d0, h.d1, h.a0, h.a1, h.b0, h.b1, fun e => h.ne e.symm⟩
theorem note_wp {B : Nat} {s : Bag} {cs : List Int} {Φ : Option NT4 × Bag → Prop} (hs : BagOk B s) (hB : B < 2 ^ 39) (hc : CtOk cs)
    (k : ∀ o s', (∀ t, o = some t → NtOk cs t) → BagOk (B + 4) s' → Φ (o, s')) : (m_law_note s cs).run Φ := by
  have h8 := hc.len
  unfold m_law_note
  simp only [run_bind, run_bind2, run_rt, run_guard, run_opt, run_if, decide_eq_true_eq]
  refine ⟨⟨by decide, by decide, by omega, by omega⟩, ?_⟩
  refine compG_wp (fun h => decide (lAt cs h > 0)) (fun h => h) (small (by rw [rng_len]; omega)) (fun y hy Ψ q => ?_) (fun _ _ _ Ψ q => by exact q) ?_
  · obtain ⟨z1, z2⟩ := rng_mem.mp hy
    simp only [run_bind, run_opt, run_rt, l_at z1 z2, Option.some.injEq, exists_eq_left']
    exact q
  · rw [List.map_id']
    have pw : ((rng 0 (cs.length : Int)).filter fun h => decide (lAt cs h > 0)).Pairwise (· < ·) := (rng_pw _ _).filter _
    have mem : ∀ y, y ∈ ((rng 0 (cs.length : Int)).filter fun h => decide (lAt cs h > 0)) ↔ 0 ≤ y ∧ y < cs.length ∧ 0 < lAt cs y := fun y => by
      rw [List.mem_filter, rng_mem, decide_eq_true_eq, and_assoc]
    have hl : ((rng 0 (cs.length : Int)).filter fun h => decide (lAt cs h > 0)).length ≤ 8 := by
      refine Nat.le_trans (List.length_filter_le _ _) ?_
      rw [rng_len]; omega
    generalize ((rng 0 (cs.length : Int)).filter fun h => decide (lAt cs h > 0)) = sm at pw mem hl ⊢
    split
    · exact k _ _ (fun t e => nomatch e) (hs.mo (by omega))
    · refine draw_wp hs (by omega) (by omega) (by omega) fun i s1 a1 a2 hs1 => ?_
      refine draw_wp hs1 (by omega) (by omega) (by omega) fun d s2 b1 b2 hs2 => ?_
      dsimp only
      refine ⟨by omega, ?_⟩
      obtain ⟨j, hj, j0, j1, jne⟩ : ∃ j, (i + 1 + d) % (sm.length : Int) = j ∧ 0 ≤ j ∧ j < sm.length ∧ j ≠ i := by
        refine ⟨_, rfl, Int.emod_nonneg _ (by omega), Int.emod_lt_of_pos _ (by omega), fun z => ?_⟩
        by_cases c : i + 1 + d < sm.length
        · rw [Int.emod_eq_of_lt (by omega) c] at z; omega
        · have e : (i + 1 + d) % (sm.length : Int) = (i + 1 + d - sm.length) % (sm.length : Int) := by rw [Int.sub_emod_right]
          rw [e, Int.emod_eq_of_lt (by omega) (by omega)] at z; omega
      rw [hj]
      have ei := l_at (l := sm) a1 a2
      have ej := l_at (l := sm) j0 j1
      obtain ⟨x1, x2, x3⟩ := (mem _).mp (lAt_mem (l := sm) a1 a2)
      obtain ⟨y1, y2, y3⟩ := (mem _).mp (lAt_mem (l := sm) j0 j1)
      have hne : lAt sm i ≠ lAt sm j := by
        unfold lAt
        rw [List.getD_eq_getElem?_getD, List.getD_eq_getElem?_getD, List.getElem?_eq_getElem (by omega), List.getElem?_eq_getElem (by omega)]
        show sm[i.toNat]'(by omega) ≠ sm[j.toNat]'(by omega)
        rw [List.pairwise_iff_getElem] at pw
        rcases Nat.lt_or_gt_of_ne (show i.toNat ≠ j.toNat by omega) with q | q
        · have := pw _ _ (by omega) (by omega) q; omega
        · have := pw _ _ (by omega) (by omega) q; omega
      have big := fun {x : Int} (h0 : 0 ≤ x) (h1 : x < cs.length) => Int.le_trans (le_sum hc.nn (lAt_mem h0 h1)) hc.sum
      have bx := big x1 x2
      have bY := big y1 y2
      refine ⟨_, ei, _, ei, _, l_at x1 x2, ?_⟩
      refine draw_wp hs2 (by omega) x3 (by omega) fun p s3 c1 c2 hs3 => ?_
      dsimp only
      refine ⟨_, ej, _, ej, _, l_at y1 y2, ?_⟩
      refine draw_wp hs3 (by omega) y3 (by omega) fun q s4 d1 d2 hs4 => ?_
      exact k _ _ (fun t e => by cases e; exact ⟨x1, x2, c1, c2, y1, y2, d1, d2, hne⟩) (hs4.mo (by omega))
theorem insL_wp {α : Type} {xs : List α} {i : Int} {x : α} {Φ : List α → Prop} (h : xs.length ≤ 100000) (h0 : 0 ≤ i) (h1 : i ≤ 100000) (k : ∀ ys, ys.length ≤ xs.length + 1 → (∀ y ∈ ys, y ∈ xs ∨ y = x) → Φ ys) : (insL xs i x).run Φ := by
  refine ⟨⟨small' h, h0, by omega⟩, k _ ?_ fun y hy => ?_⟩
  · simp only [List.length_append, List.length_take, List.length_drop, List.length_singleton]; omega
  · simp only [List.mem_append, List.mem_singleton] at hy
    rcases hy with (q | q) | q
    · exact .inl (List.mem_of_mem_take q)
    · exact .inr q
    · exact .inl (List.mem_of_mem_drop q)
/-- a record -/
structure RcOk (r : List Int × List NT4) : Prop where
  ct : CtOk r.1
  nt : ∀ t ∈ r.2, NtOk r.1 t
  len : r.2.length ≤ 42
theorem record_wp {B : Nat} {s : Bag} {great : Int} {Φ : (List Int × List NT4) × Bag → Prop} (hs : BagOk B s) (hB : B < 2 ^ 37) (hg : great = 0 ∨ great = 1)
    (k : ∀ r s', RcOk r → BagOk (B + 2000) s' → Φ (r, s')) : (m_law_record s great).run Φ := by
  unfold m_law_record
  simp only [run_bind, run_bind2, run_rt, run_guard, run_opt]
  refine draw_wp hs (by omega) (by decide) (by decide) fun mode s1 a1 a2 hs1 => ?_
  refine draw_wp hs1 (by omega) (by decide) (by decide) fun twice s2 b1 b2 hs2 => ?_
  refine counts_wp hs2 (by omega) fun cs s3 hc hs3 => ?_
  refine order_wp hs3 (by omega) hc fun os s4 o1 o2 o3 hs4 => ?_
  dsimp only
  refine spots_wp o1 fun sp hsp => ?_
  obtain ⟨n, hn, en⟩ := atI_some (xs := [(13 : Int), 41]) (i := great) (by omega) (by simp; omega)
  refine ⟨n, en, ?_⟩
  have hn2 : n = 13 ∨ n = 41 := by simpa using hn
  refine draw_wp hs4 (by omega) (by omega) (by omega) fun m s5 c1 c2 hs5 => ?_
  dsimp only
  refine ⟨⟨by decide, by decide, by omega, by omega⟩, ?_⟩
  refine forL_wp (fun t q => BagOk (B + 400 + 10 * t) q.1 ∧ q.2.length ≤ t ∧ ∀ t ∈ q.2, NtOk cs t) ⟨hs5.mo (by omega), Nat.le_refl _, by simp⟩ ?_ ?_
  · rintro t x ⟨s, ties⟩ hx ⟨q1, q2, q3⟩
    dsimp only at q1 q2 q3
    have ht := (List.getElem?_eq_some_iff.mp hx).1
    rw [rng_len] at ht
    unfold m_law_record_L1
    simp only [run_bind, run_bind2, run_rt, run_guard, run_if, run_opt, decide_eq_true_eq]
    refine note_wp q1 (by omega) hc fun o s6 ho hs6 => ?_
    dsimp only
    -- the step behind the draws
    have fin : ∀ (along : Bool) (s7 : Bag), BagOk (B + 400 + 10 * t + 6) s7 → ∀ Ψ : Bag × List NT4 → Prop, (∀ s8 ts, BagOk (B + 400 + 10 * (t + 1)) s8 → ts.length ≤ t + 1 → (∀ t ∈ ts, NtOk cs t) → Ψ (s8, ts)) → (W.guard (∀ b, o = some b → toPy b ≠ .none) (W.bind (W.ite (o.isSome) (W.bind (W.ite along (W.bind (W.opt o) fun t50 => W.bind (W.opt (valM sp (t50.a, t50.b))) fun t54 => W.bind (W.opt o) fun t56 => W.bind (W.opt (valM sp (t56.c, t56.d))) fun t60 => W.ret (decide (t54 > t60))) (W.ret false)) (fun t62 => W.bind (W.ite t62 (W.bind (W.opt o) fun t65 => W.bind (W.opt o) fun t69 => W.bind (W.ret (some (⟨(t65.c, t65.d).1, (t65.c, t65.d).2, (t69.a, t69.b).1, (t69.a, t69.b).2⟩ : NT4))) fun note_ => W.ret (note_)) (W.ret o)) (fun s => (fun note_ => W.bind2 (m_law_draw s7 (((ties).length : Int) + (1 : Int))) fun t76 bag_ => W.bind (W.opt note_) fun t80 => W.bind (insL ties t76 t80) fun ties_ => W.ret ((bag_, ties_, note_))) s))) (W.ret ((s7, ties, o)))) (fun s => (fun bag_ ties_ (note_ : Option NT4) => W.ret ((bag_, ties_))) s.1 s.2.1 s.2.2))).run Ψ := by
      intro along s7 h7 Ψ hΨ
      simp only [run_bind, run_bind2, run_rt, run_guard, run_if, run_opt]
      refine ⟨nn, ?_⟩
      cases o with
      | none =>
        rw [if_neg (by simp)]
        exact hΨ _ _ (h7.mo (by omega)) (by omega) q3
      | some nt =>
        have hnt := ho nt rfl
        rw [if_pos Option.isSome_some]
        have tail : ∀ nt : NT4, NtOk cs nt → (m_law_draw s7 (((ties).length : Int) + (1 : Int))).run fun r => ∃ a, some nt = some a ∧ (insL ties r.1 a).run fun a => Ψ (r.2, a) := fun nt hnt => by
          refine draw_wp h7 (by omega) (by omega) (by omega) fun at_ s8 d1 d2 hs8 => ⟨nt, rfl, ?_⟩
          refine insL_wp (by omega) d1 (by omega) fun ys y1 y2 => hΨ _ _ (hs8.mo (by omega)) (by omega) fun u hu => ?_
          rcases y2 u hu with z | z
          · exact q3 u z
          · rw [z]; exact hnt
        have two : ∀ b : Bool, if b = true then ∃ a, some nt = some a ∧ ∃ a_1, some nt = some a_1 ∧ (m_law_draw s7 (((ties).length : Int) + (1 : Int))).run fun r => ∃ a_2, some (⟨a.c, a.d, a_1.a, a_1.b⟩ : NT4) = some a_2 ∧ (insL ties r.1 a_2).run fun a => Ψ (r.2, a)
            else (m_law_draw s7 (((ties).length : Int) + (1 : Int))).run fun r => ∃ a, some nt = some a ∧ (insL ties r.1 a).run fun a => Ψ (r.2, a) := fun b => by
          split
          · exact ⟨nt, rfl, nt, rfl, tail _ hnt.sw⟩
          · exact tail nt hnt
        split
        · obtain ⟨v1, w1⟩ := Option.isSome_iff_exists.mp (hsp nt.a nt.b hnt.b0 (by rw [o3 _ hnt.a0 hnt.a1]; exact hnt.b1))
          obtain ⟨v2, w2⟩ := Option.isSome_iff_exists.mp (hsp nt.c nt.d hnt.d0 (by rw [o3 _ hnt.c0 hnt.c1]; exact hnt.d1))
          exact ⟨nt, rfl, v1, w1, nt, rfl, v2, w2, two _⟩
        · exact two false
    have fin2 : ∀ (along : Bool) (s7 : Bag), BagOk (B + 400 + 10 * t + 6) s7 → _ := fun along s7 h7 => fin along s7 h7 (fun r => BagOk (B + 400 + 10 * (t + 1)) r.1 ∧ r.2.length ≤ t + 1 ∧ ∀ t ∈ r.2, NtOk cs t) fun s8 ts z1 z2 z3 => ⟨z1, z2, z3⟩
    clear fin
    split
    · have F := fin2 true s6 (hs6.mo (by omega))
      simp only [run_bind, run_bind2, run_rt, run_guard, run_if, run_opt, decide_eq_true_eq] at F
      exact F
    · split
      · refine draw_wp hs6 (by omega) (by decide) (by decide) fun d s7 d1 d2 hs7 => ?_
        have F := fin2 (decide (d > 0)) s7 (hs7.mo (by omega))
        simp only [run_bind, run_bind2, run_rt, run_guard, run_if, run_opt, decide_eq_true_eq] at F
        exact F
      · have F := fin2 false s6 (hs6.mo (by omega))
        simp only [run_bind, run_bind2, run_rt, run_guard, run_if, run_opt, decide_eq_true_eq] at F
        exact F
  · rintro ⟨s, ties⟩ ⟨q1, q2, q3⟩
    dsimp only at q1 q2 q3
    rw [rng_len] at q1 q2
    have q1 : BagOk (B + 1000) s := q1.mo (by omega)
    have q2 : ties.length ≤ 41 := by omega
    unfold m_law_record_R1
    simp only [run_bind, run_bind2, run_rt, run_guard, run_if, run_opt, decide_eq_true_eq]
    have fin : ∀ b : Bool, (b = true → ties ≠ []) → if b = true then (m_law_draw s (((ties).length : Int) + (1 : Int))).run fun r => (m_law_draw r.2 ((ties).length : Int)).run fun r_1 => ∃ a, atI ties r_1.1 = some a ∧ (insL ties r.1 a).run fun a => Φ ((cs, a), r_1.2) else Φ ((cs, ties), s) := fun b hb => by
      split
      · rename_i hbt
        have hpos := List.length_pos_iff.mpr (hb hbt)
        refine draw_wp q1 (by omega) (by omega) (by omega) fun at_ s8 d1 d2 hs8 => ?_
        refine draw_wp hs8 (by omega) (by omega) (by omega) fun to s9 e1 e2 hs9 => ?_
        obtain ⟨x, hx, ex⟩ := atI_some (xs := ties) e1 e2
        refine ⟨x, ex, insL_wp (by omega) d1 (by omega) fun ys y1 y2 => k _ _ ⟨hc, fun u hu => ?_, by show ys.length ≤ 42; omega⟩ (hs9.mo (by omega))⟩
        rcases y2 u hu with z | z
        · exact q3 u z
        · rw [z]; exact q3 x hx
      · exact k _ _ ⟨hc, q3, by show ties.length ≤ 42; omega⟩ (q1.mo (by omega))
    split
    · refine ⟨⟨okD_pl _, okD_pl _⟩, fin _ fun h z => ?_⟩
      rw [eqD_dec, z] at h
      simp at h
    · exact fin false fun h => absurd h (by decide)
end M

/-! # cuts and least cuts, for records of any length (CutN and K36m turned to RcG) -/
namespace M
open PySem L2 Z
structure CtG (cs : List Int) : Prop where
  len : cs.length ≤ 8
structure RcG (r : List Int × List NT4) : Prop where
  ct : CtG r.1
  nt : ∀ t ∈ r.2, NtOk r.1 t
section
variable {r : List Int × List NT4} {l s cs : List Int}
structure CutOk (cs l : List Int) : Prop where
  len : l.length = cs.length
  bd : ∀ h : Int, 0 ≤ h → h < cs.length → 0 ≤ lAt l h ∧ lAt l h ≤ lAt cs h
theorem istouch_wp {h k : Int} {Φ : Bool → Prop} (h0 : 0 ≤ h) (h1 : h < cs.length) (k0 : 0 ≤ k) (k1 : k < lAt cs h) (q : Φ true) : (m_is_touch cs h k).run Φ := by
  unfold m_is_touch
  simp only [run_bind, run_rt, run_if, run_opt, decide_eq_true_eq]
  rw [if_pos h0, if_pos h1, if_pos k0]
  refine ⟨_, l_at h0 h1, ?_⟩
  rw [decide_eq_true k1]
  exact q
def viol (l : List Int) (t : NT4) : Bool := decide (t.d < lAt l t.c) && decide (t.b ≥ lAt l t.a)
theorem sum_mono : ∀ {l m : List Int}, l.length = m.length → (∀ n : Nat, l.getD n 0 ≤ m.getD n 0) → l.sum ≤ m.sum
  | [], [], _, _ => by simp
  | [], _ :: _, h, _ => by simp at h
  | _ :: _, [], h, _ => by simp at h
  | a :: l, b :: m, h, q => by
    have h0 := q 0
    have := sum_mono (l := l) (m := m) (by simpa using h) (fun n => by simpa using q (n + 1))
    simp only [List.getD_cons_zero] at h0
    rw [List.sum_cons, List.sum_cons]
    omega
theorem lAt_nat {l : List Int} {n : Nat} : l.getD n 0 = lAt l (n : Int) := by unfold lAt; rw [Int.toNat_natCast]
theorem lAt_out {l : List Int} {n : Nat} (h : l.length ≤ n) : l.getD n 0 = 0 := by
  rw [List.getD_eq_getElem?_getD, List.getElem?_eq_none h]; rfl
theorem sum_monoI {l m : List Int} (e : l.length = m.length) (h : ∀ x : Int, 0 ≤ x → x < l.length → lAt l x ≤ lAt m x) : l.sum ≤ m.sum := by
  refine sum_mono e fun n => ?_
  by_cases c : n < l.length
  · rw [lAt_nat, lAt_nat]; exact h n (by omega) (by omega)
  · rw [lAt_out (by omega), lAt_out (by omega)]
    exact Int.le_refl _
theorem lAt_ext {l m : List Int} (e : l.length = m.length) (h : ∀ x : Int, 0 ≤ x → x < l.length → lAt l x = lAt m x) : l = m := by
  refine List.ext_getElem e fun n h1 h2 => ?_
  have := h n (by omega) (by omega)
  rw [← lAt_nat, ← lAt_nat, List.getD_eq_getElem?_getD, List.getD_eq_getElem?_getD, List.getElem?_eq_getElem h1, List.getElem?_eq_getElem h2] at this
  exact this
/-- a cut, told as numbers -/
def Cl (ts : List NT4) (f : Int → Int) : Prop := ∀ t ∈ ts, t.d < f t.c → t.b < f t.a
structure LeastOf (r : List Int × List NT4) (s l : List Int) : Prop where
  ok : CutOk r.1 l
  cl : Cl r.2 (lAt l)
  ge : ∀ h : Int, 0 ≤ h → h < r.1.length → lAt s h ≤ lAt l h
  mn : ∀ f, Cl r.2 f → (∀ h : Int, 0 ≤ h → h < r.1.length → lAt s h ≤ f h) → ∀ h : Int, 0 ≤ h → h < r.1.length → lAt l h ≤ f h
structure GreatestOf (r : List Int × List NT4) (s l : List Int) : Prop where
  ok : CutOk r.1 l
  cl : Cl r.2 (lAt l)
  le : ∀ h : Int, 0 ≤ h → h < r.1.length → lAt l h ≤ lAt s h
  mx : ∀ f, Cl r.2 f → (∀ h : Int, 0 ≤ h → h < r.1.length → f h ≤ lAt s h) → ∀ h : Int, 0 ≤ h → h < r.1.length → f h ≤ lAt l h
theorem LeastOf.uniq {l l' : List Int} (h : LeastOf r s l) (h' : LeastOf r s l') : l = l' :=
  lAt_ext (h.ok.len.trans h'.ok.len.symm) fun x h1 h2 => by
    rw [h.ok.len] at h2
    have a := h.mn _ h'.cl h'.ge x h1 h2
    have b := h'.mn _ h.cl h.ge x h1 h2
    omega
theorem GreatestOf.uniq {l l' : List Int} (h : GreatestOf r s l) (h' : GreatestOf r s l') : l = l' :=
  lAt_ext (h.ok.len.trans h'.ok.len.symm) fun x h1 h2 => by
    rw [h.ok.len] at h2
    have a := h.mx _ h'.cl h'.le x h1 h2
    have b := h'.mx _ h.cl h.le x h1 h2
    omega
theorem Cl.any {l : List Int} {ts : List NT4} (h : Cl ts (lAt l)) : ts.any (viol l) = false := by
  rw [List.any_eq_false]
  intro t ht c
  unfold viol at c
  rw [Bool.and_eq_true, decide_eq_true_eq, decide_eq_true_eq] at c
  have := h t ht c.1
  omega
theorem viol_iff {l : List Int} {t : NT4} : viol l t = true ↔ t.d < lAt l t.c ∧ lAt l t.a ≤ t.b := by
  unfold viol
  rw [Bool.and_eq_true, decide_eq_true_eq, decide_eq_true_eq]
theorem CutOk.sum (h : CutOk cs l) : l.sum ≤ cs.sum := sum_monoI h.len fun x h1 h2 => (h.bd x h1 (by rw [← h.len]; exact h2)).2
theorem CutOk.sum0 (h : CutOk cs l) : 0 ≤ l.sum := sum_nn fun c hc => by
  obtain ⟨n, hn, rfl⟩ := List.mem_iff_getElem.mp hc
  have := (h.bd n (by omega) (by rw [← h.len]; omega)).1
  rw [← lAt_nat, List.getD_eq_getElem?_getD, List.getElem?_eq_getElem hn] at this
  exact this
theorem CutOk.set {x v : Int} (h : CutOk cs l) (h0 : 0 ≤ x) (h1 : x < cs.length) (v0 : 0 ≤ v) (v1 : v ≤ lAt cs x) : CutOk cs (l.set x.toNat v) := ⟨by rw [List.length_set]; exact h.len, fun y y0 y1 => by
  rw [lAt_set h0 (by rw [h.len]; exact h1) y0]
  by_cases c : y = x
  · rw [if_pos c, c]; exact ⟨v0, v1⟩
  · rw [if_neg c]; exact h.bd y y0 y1⟩
theorem set_sum' {x v : Int} (h0 : 0 ≤ x) (h1 : x < l.length) : (l.set x.toNat v).sum = l.sum - lAt l x + v := set_sum (by omega)
/-! the program's -/
end
end M

/-! # orders of records of any length (FirstN, DueN, K38m over RcL) -/
namespace M
open PySem L2 Z
structure RcL (r : List Int × List NT4) : Prop where
  ct : CtOk r.1
  nt : ∀ t ∈ r.2, NtOk r.1 t
  len : r.2.length ≤ 99000
theorem RcL.g {r : List Int × List NT4} (h : RcL r) : RcG r := ⟨⟨h.ct.len⟩, h.nt⟩
section
variable {r : List Int × List NT4} {os cs now : List Int} {ts : List NT4}
def fsts (ts : List NT4) (key : Int × Int) : List (Int × Int) := (ts.filter fun t => decide ((t.c, t.d) = key)).map fun t => (t.a, t.b)
theorem fsts_len {key : Int × Int} : (fsts ts key).length ≤ ts.length := by
  unfold fsts
  rw [List.length_map]
  exact List.length_filter_le _ _
theorem fsts_snoc {t : NT4} {key : Int × Int} : fsts (ts ++ [t]) key = if key = (t.c, t.d) then fsts ts key ++ [(t.a, t.b)] else fsts ts key := by
  unfold fsts
  rw [List.filter_append, List.map_append]
  by_cases c : key = (t.c, t.d)
  · rw [if_pos c]; subst c; simp
  · rw [if_neg c]
    have : ¬ (t.c, t.d) = key := fun e => c e.symm
    simp [this]
theorem valM_setd' {κ α : Type} [DecidableEq κ] {m : Dc κ (List α)} {k j : κ} : (valM (setd m k) j).getD [] = (valM m j).getD [] := by
  unfold setd
  split
  · rfl
  · rename_i c
    have : valM m k = none := by
      cases h : valM m k with
      | none => rfl
      | some x => rw [h] at c; exact absurd rfl c
    rw [valM_snoc this]
    by_cases e : j = k
    · subst e
      rw [if_pos rfl, this]; rfl
    · rw [if_neg e]
theorem setd_len {κ α : Type} [DecidableEq κ] {m : Dc κ (List α)} {k : κ} : (setd m k).length ≤ m.length + 1 := by
  unfold setd
  split
  · omega
  · rw [List.length_append]; exact Nat.le_refl _
theorem sd_len {κ α : Type} [DecidableEq κ] {m : Dc κ (List α)} {k : κ} {v : List α} : (putM (setd m k) k v).length ≤ m.length + 1 := by
  unfold setd
  split
  · rename_i c
    unfold putM
    rw [anyM, if_pos c, List.length_map]
    omega
  · rename_i c
    have h : valM m k = none := by
      cases h : valM m k with
      | none => rfl
      | some x => rw [h] at c; exact absurd rfl c
    unfold putM
    rw [anyM, valM_snoc h, if_pos rfl, if_pos (show (some ([] : List α)).isSome = true from rfl), List.length_map, List.length_append]
    exact Nat.le_refl _
def Firsts (ts : List NT4) (m : Dc (Int × Int) (List (Int × Int))) : Prop := ∀ key, (valM m key).getD [] = fsts ts key
theorem firsts_wp {Φ : Dc (Int × Int) (List (Int × Int)) → Prop} (hl : r.2.length ≤ 99000) (q : ∀ m, Firsts r.2 m → Φ m) : (m_firsts_of r).run Φ := by
  unfold m_firsts_of
  simp only [run_bind, run_rt]
  refine forL_wp (fun i m => m.length ≤ i ∧ Firsts (r.2.take i) m) ⟨Nat.le_refl _, fun key => rfl⟩ ?_ ?_
  · rintro i t m ht ⟨h1, h2⟩
    have hi := (List.getElem?_eq_some_iff.mp ht).1
    unfold m_firsts_of_L1
    simp only [run_bind, run_rt]
    have hb := fsts_len (ts := r.2.take i) (key := (t.c, t.d))
    rw [List.length_take] at hb
    show (_ ∧ _) ∧ _
    refine ⟨⟨small' (by omega), by rw [h2]; exact small' (by omega)⟩, ?_⟩
    show _ ∧ _
    refine ⟨Nat.le_trans sd_len (by omega), fun key => ?_⟩
    rw [M.valM_put, take_snocN ht, fsts_snoc]
    by_cases c : key = (t.c, t.d)
    · rw [if_pos c, if_pos c, Option.getD_some, h2, c]
    · rw [if_neg c, if_neg c, valM_setd', h2]
  · rintro m ⟨_, h⟩
    rw [List.take_length] at h
    exact q m h
/-- a note holds the hand's next touch back -/
def heldB (ts : List NT4) (now : List Int) (h : Int) : Bool := ts.any fun t => decide (t.c = h) && (decide (t.d = lAt now h) && decide (lAt now t.a ≤ t.b))
theorem heldB_iff {h : Int} : heldB ts now h = true ↔ ∃ t ∈ ts, t.c = h ∧ t.d = lAt now h ∧ lAt now t.a ≤ t.b := by
  unfold heldB
  rw [List.any_eq_true]
  simp only [Bool.and_eq_true, decide_eq_true_eq]
theorem sum_monoK : ∀ {l m : List Int}, l.length = m.length → (∀ x : Int, 0 ≤ x → x < l.length → lAt l x ≤ lAt m x) → l.sum ≤ m.sum
  | [], [], _, _ => by simp
  | [], _ :: _, h, _ => by simp at h
  | _ :: _, [], h, _ => by simp at h
  | a :: l, b :: m, h, q => by
    have h0 : a ≤ b := q 0 (by omega) (by rw [List.length_cons]; omega)
    have := sum_monoK (l := l) (m := m) (by simpa using h) fun x x0 x1 => by
      have := q (x + 1) (by omega) (by rw [List.length_cons]; omega)
      unfold lAt at this ⊢
      have e : (x + 1).toNat = x.toNat + 1 := by omega
      rw [e, List.getD_cons_succ, List.getD_cons_succ] at this
      exact this
    rw [List.sum_cons, List.sum_cons]
    omega
theorem repH {n h : Int} (h0 : 0 ≤ n) (h1 : n ≤ 1000) : repG ([h] : List Int) n ∧ repL ([h] : List Int) n = List.replicate n.toNat h := by
  refine ⟨⟨by omega, by omega, ?_⟩, ?_⟩
  · refine Nat.le_trans (show [h].length * n.toNat ≤ 1000 by simp; omega) (by decide)
  · unfold repL
    exact List.flatten_replicate_singleton
structure IsOrd (cs os : List Int) : Prop where
  ct : ∀ h : Int, 0 ≤ h → h < cs.length → (cntI h os : Int) = lAt cs h
  len : (os.length : Int) = cs.sum
theorem cntI_app {h : Int} {a b : List Int} : cntI h (a ++ b) = cntI h a + cntI h b := by unfold cntI; exact List.count_append
theorem cntI_rep {h x : Int} {n : Nat} : cntI h (List.replicate n x) = if x = h then n else 0 := by
  unfold cntI
  rw [List.count_replicate]
  by_cases c : x = h <;> simp [c]
theorem srt_iff {due : List Int} (hs : due.Pairwise (· ≤ ·)) (hc : ∀ h : Int, (cntI h due : Int) = if 0 ≤ h ∧ h < cs.length then lAt cs h else 0) (hl : (due.length : Int) = cs.sum) : srtI os = due ↔ IsOrd cs os := by
  constructor
  · intro e
    have p : due.Perm os := e ▸ srtI_perm os
    refine ⟨fun h h0 h1 => ?_, by rw [← hl, p.length_eq]⟩
    have : cntI h os = cntI h due := by unfold cntI; exact (p.count_eq h).symm
    rw [this, hc, if_pos ⟨h0, h1⟩]
  · intro o
    have p : (os.filter fun x : Int => decide (0 ≤ x ∧ x < (cs.length : Int))).Perm due := by
      refine List.perm_iff_count.mpr fun x => ?_
      have hx := hc x
      unfold cntI at hx
      by_cases c : 0 ≤ x ∧ x < (cs.length : Int)
      · rw [if_pos c] at hx
        have := o.ct x c.1 c.2
        unfold cntI at this
        rw [List.count_filter (by simpa using c)]
        omega
      · rw [if_neg c] at hx
        rw [List.count_eq_zero.mpr]
        · omega
        · intro m
          have := (List.mem_filter.mp m).2
          rw [decide_eq_true_eq] at this
          exact c this
    have e : os.filter (fun x : Int => decide (0 ≤ x ∧ x < (cs.length : Int))) = os := by
      refine List.Sublist.eq_of_length List.filter_sublist ?_
      have := p.length_eq
      have := o.len
      omega
    rw [e] at p
    exact (srtI_of p.symm hs).symm
theorem cntI_take {h : Int} {i j : Nat} (hij : i ≤ j) : cntI h (os.take i) ≤ cntI h (os.take j) := by
  unfold cntI
  have : os.take i = (os.take j).take i := by rw [List.take_take, Nat.min_eq_left hij]
  rw [this]
  exact (List.take_sublist _ _).count_le _
theorem cntI_take_all {h : Int} {i : Nat} : cntI h (os.take i) ≤ cntI h os := by
  unfold cntI
  exact (List.take_sublist _ _).count_le _
/-- an order keeps notes -/
def Kept (ts : List NT4) (os : List Int) : Prop := ∀ j x, os[j]? = some x → ∀ t ∈ ts, t.c = x → t.d = (cntI x (os.take j) : Int) → t.b < (cntI t.a (os.take j) : Int)
/-- where the touches stand -/
def Spots (os : List Int) (m : Dc (Int × Int) Int) : Prop := (∀ h j : Int, 0 ≤ j → j < cntI h os → (valM m (h, j)).isSome = true) ∧ ∀ h j p, valM m (h, j) = some p → 0 ≤ p ∧ os[p.toNat]? = some h ∧ (cntI h (os.take p.toNat) : Int) = j
theorem spots_wp2 {Φ : Dc (Int × Int) Int → Prop} (hl : os.length ≤ 1000) (k : ∀ m : Dc (Int × Int) Int, Spots os m → Φ m) : (m_law_spots os).run Φ := by
  unfold m_law_spots
  simp only [run_bind, run_rt, run_guard]
  refine ⟨⟨by decide, by decide, by omega, by omega⟩, ?_⟩
  refine forL_wp (fun t q => q.1.length ≤ t ∧ q.2.length ≤ t ∧ (∀ h, (valM q.2 h).getD 0 = (cntI h (os.take t) : Int)) ∧ (∀ h j : Int, 0 ≤ j → j < cntI h (os.take t) → (valM q.1 (h, j)).isSome = true) ∧ ∀ h j p, valM q.1 (h, j) = some p → 0 ≤ p ∧ os[p.toNat]? = some h ∧ (cntI h (os.take p.toNat) : Int) = j)
    ⟨Nat.le_refl _, Nat.le_refl _, fun h => rfl, fun h j h1 h2 => by have : cntI h (os.take 0) = 0 := rfl; omega, fun h j p e => by cases e⟩ ?_ ?_
  · rintro t x ⟨fd, mn⟩ hx ⟨q1, q2, q3, q4, q5⟩
    dsimp only at q1 q2 q3 q4 q5
    obtain ⟨ht, rfl⟩ := rng_get hx
    have htl : t < os.length := by omega
    rw [Int.zero_add]
    obtain ⟨y, hy⟩ : ∃ y, os[t]? = some y := ⟨os[t], List.getElem?_eq_getElem htl⟩
    unfold m_law_spots_L1
    simp only [run_bind, run_opt, run_rt, atI_nat hy, Option.some.injEq, exists_eq_left']
    rw [q3]
    refine putG_wp (by omega) ⟨_, by rw [M.valM_put, if_pos rfl], putG_wp (by omega) ⟨?_, ?_, fun h => ?_, fun h j h1 h2 => ?_, fun h j p e => ?_⟩⟩
    · exact Nat.le_trans putM_len (by omega)
    · exact Nat.le_trans putM_len (by omega)
    · rw [M.valM_put, take_snocN hy, cntI_snoc]
      by_cases c : h = y
      · subst c
        rw [if_pos rfl, if_pos rfl]; simp
      · rw [if_neg c, if_neg (fun z => c z.symm), q3]; simp
    · rw [take_snocN hy, cntI_snoc] at h2
      rw [M.valM_put]
      by_cases c : y = h
      · subst c
        rw [if_pos rfl] at h2
        by_cases d : j = (cntI y (os.take t) : Int)
        · rw [if_pos (by rw [d]; congr 1; omega)]; rfl
        · rw [if_neg (fun z => d (by have := congrArg Prod.snd z; dsimp only at this; omega))]
          exact q4 y j h1 (by omega)
      · rw [if_neg c] at h2
        rw [if_neg (fun z => c (congrArg Prod.fst z).symm)]
        exact q4 h j h1 (by omega)
    · rw [M.valM_put] at e
      split at e
      · rename_i c
        rw [Prod.mk.injEq] at c
        cases e
        rw [Int.toNat_natCast, c.1]
        exact ⟨by omega, hy, by rw [c.2]; omega⟩
      · exact q5 h j p e
  · rintro ⟨fd, mn⟩ ⟨q1, q2, q3, q4, q5⟩
    rw [rng_len, Int.sub_zero, Int.toNat_natCast, List.take_length] at q4
    exact k fd ⟨q4, q5⟩
theorem Spots.at {m : Dc (Int × Int) Int} (hm : Spots os m) {h j : Int} (h0 : 0 ≤ j) (h1 : j < cntI h os) : ∃ p : Nat, valM m (h, j) = some (p : Int) ∧ os[p]? = some h ∧ (cntI h (os.take p) : Int) = j := by
  obtain ⟨p, hp⟩ := Option.isSome_iff_exists.mp (hm.1 h j h0 h1)
  obtain ⟨a, b, c⟩ := hm.2 h j p hp
  exact ⟨p.toNat, by rw [hp]; congr 1; omega, b, c⟩
theorem cnt_next {h : Int} {p j : Nat} (hp : os[p]? = some h) (hj : p < j) : cntI h (os.take p) + 1 ≤ cntI h (os.take j) := by
  have := cntI_take (os := os) (h := h) (show p + 1 ≤ j by omega)
  rw [take_snocN hp, cntI_snoc, if_pos rfl] at this
  exact this
/-- a note's two places -/
theorem kept_one {m : Dc (Int × Int) Int} (hm : Spots os m) {t : NT4} (hk : NtOk cs t) (ho : IsOrd cs os) : ∃ p q : Nat, valM m (t.a, t.b) = some (p : Int) ∧ valM m (t.c, t.d) = some (q : Int) ∧
    (p ≤ q ↔ ∀ j x, os[j]? = some x → t.c = x → t.d = (cntI x (os.take j) : Int) → t.b < (cntI t.a (os.take j) : Int)) := by
  obtain ⟨p, p1, p2, p3⟩ := hm.at hk.b0 (by rw [ho.ct _ hk.a0 hk.a1]; exact hk.b1)
  obtain ⟨q, q1, q2, q3⟩ := hm.at hk.d0 (by rw [ho.ct _ hk.c0 hk.c1]; exact hk.d1)
  refine ⟨p, q, p1, q1, fun hpq j x hj e1 e2 => ?_, fun h => ?_⟩
  · subst e1
    have hjq : j = q := by
      rcases Nat.lt_trichotomy j q with c | c | c
      · have := cnt_next hj c; omega
      · exact c
      · have := cnt_next q2 c; omega
    subst hjq
    have hne : p ≠ j := fun e => by
      subst e
      rw [p2] at hj
      exact hk.ne (Option.some.inj hj)
    have := cnt_next p2 (show p < j by omega)
    omega
  · have := h q t.c q2 rfl q3.symm
    apply Classical.byContradiction
    intro c
    have := cntI_take (os := os) (h := t.a) (show q ≤ p by omega)
    omega
theorem repZ {n : Nat} (h : n ≤ 300) : repG ([(0 : Int)] : List Int) (n : Int) ∧ repL ([(0 : Int)] : List Int) (n : Int) = List.replicate n 0 := by
  have := repH (n := n) (h := 0) (by omega) (by omega)
  rw [Int.toNat_natCast] at this
  exact this
theorem lAt_zero {n : Nat} {x : Int} : lAt (List.replicate n 0) x = 0 := by
  unfold lAt
  rw [List.getD_eq_getElem?_getD, List.getElem?_replicate]
  split <;> rfl
theorem sum_take : ∀ {l : List Int} {i : Nat}, i < l.length → (l.take (i + 1)).sum = (l.take i).sum + l.getD i 0
  | [], _, h => by simp at h
  | c :: l, 0, _ => by simp
  | c :: l, i + 1, h => by
    have := sum_take (l := l) (i := i) (by simpa using h)
    simp only [List.take_succ_cons, List.sum_cons, List.getD_cons_succ] at this ⊢
    omega
theorem lAt_map {f : Int → Int} {n : Nat} {h : Int} (h0 : 0 ≤ h) (h1 : h < n) : lAt ((rng 0 (n : Int)).map f) h = f h := by
  obtain ⟨k, rfl⟩ : ∃ k : Nat, h = k := ⟨h.toNat, by omega⟩
  unfold lAt
  rw [Int.toNat_natCast, List.getD_eq_getElem?_getD, List.getElem?_map]
  have : (rng 0 (n : Int))[k]? = some (k : Int) := by
    unfold rng
    rw [List.getElem?_map, List.getElem?_range (by omega)]
    simp
  rw [this]
  rfl
/-- the hands whose next touch waits for none -/
def freeL (r : List Int × List NT4) (now : List Int) : List Int := (rng 0 (r.1.length : Int)).filter fun h => decide (lAt now h < lAt r.1 h) && !heldB r.2 now h
theorem mem_free {h : Int} : h ∈ freeL r now ↔ 0 ≤ h ∧ h < r.1.length ∧ lAt now h < lAt r.1 h ∧ heldB r.2 now h = false := by
  unfold freeL
  rw [List.mem_filter, rng_mem, Bool.and_eq_true, decide_eq_true_eq, Bool.not_eq_true']
  simp only [and_assoc]
/-- how often each hand has had its turn -/
def nowL (n : Nat) (os : List Int) : List Int := (rng 0 (n : Int)).map fun h => (cntI h os : Int)
theorem nowL_len {n : Nat} : (nowL n os).length = n := by unfold nowL; rw [List.length_map, rng_len]; omega
theorem nowL_at {n : Nat} {h : Int} (h0 : 0 ≤ h) (h1 : h < n) : lAt (nowL n os) h = (cntI h os : Int) := lAt_map h0 h1
theorem nowL_step {n : Nat} {x : Int} (x0 : 0 ≤ x) (x1 : x < n) : (nowL n os).set x.toNat (lAt (nowL n os) x + 1) = nowL n (os ++ [x]) := by
  refine lAt_ext (by rw [List.length_set, nowL_len, nowL_len]) fun y y0 y1 => ?_
  rw [List.length_set, nowL_len] at y1
  rw [lAt_set x0 (by rw [nowL_len]; exact x1) y0, nowL_at x0 x1, nowL_at y0 y1, nowL_at y0 y1, cntI_snoc]
  by_cases c : y = x
  · subst c
    rw [if_pos rfl, if_pos rfl]; omega
  · rw [if_neg c, if_neg (fun z => c z.symm)]; omega
theorem nowL_nil {n : Nat} : nowL n [] = List.replicate n 0 := lAt_ext (by rw [nowL_len, List.length_replicate]) fun x x0 x1 => by
  rw [nowL_len] at x1
  rw [nowL_at x0 x1, lAt_zero]; rfl
theorem eq_of_sum : ∀ {l m : List Int}, l.length = m.length → (∀ x : Int, 0 ≤ x → x < l.length → lAt l x ≤ lAt m x) → m.sum ≤ l.sum → l = m
  | [], [], _, _, _ => rfl
  | [], _ :: _, h, _, _ => by simp at h
  | _ :: _, [], h, _, _ => by simp at h
  | a :: l, b :: m, h, q, s => by
    have h0 : a ≤ b := q 0 (by omega) (by rw [List.length_cons]; omega)
    have q' : ∀ x : Int, 0 ≤ x → x < l.length → lAt l x ≤ lAt m x := fun x x0 x1 => by
      have := q (x + 1) (by omega) (by rw [List.length_cons]; omega)
      unfold lAt at this ⊢
      have e : (x + 1).toNat = x.toNat + 1 := by omega
      rw [e, List.getD_cons_succ, List.getD_cons_succ] at this
      exact this
    have := sum_monoK (l := l) (m := m) (by simpa using h) q'
    rw [List.sum_cons, List.sum_cons] at s
    have e2 := eq_of_sum (l := l) (m := m) (by simpa using h) q' (by omega)
    have : a = b := by omega
    rw [this, e2]
/-- each turn is the first hand's that may go on -/
def Greedy (r : List Int × List NT4) (os : List Int) : Prop := ∀ i x, os[i]? = some x → ∃ l, freeL r (nowL r.1.length (os.take i)) = x :: l
def Stuck (r : List Int × List NT4) (P : List Int) : Prop := P.length = r.1.length ∧ (∀ h : Int, 0 ≤ h → h < r.1.length → 0 ≤ lAt P h ∧ lAt P h ≤ lAt r.1 h) ∧ freeL r P = [] ∧ P.sum < r.1.sum
theorem greedy_kept (hr : RcL r) (hg : Greedy r os) : Kept r.2 os := by
  intro j x hj t ht e1 e2
  obtain ⟨l, hf⟩ := hg j x hj
  have hm : x ∈ freeL r (nowL r.1.length (os.take j)) := by rw [hf]; exact List.mem_cons_self
  obtain ⟨x0, x1, x2, x3⟩ := mem_free.mp hm
  have hk := hr.nt t ht
  apply Classical.byContradiction
  intro n
  have := heldB_iff.mpr ⟨t, ht, e1, by rw [nowL_at x0 x1]; exact e2, by rw [nowL_at hk.a0 hk.a1]; omega⟩
  rw [x3] at this
  cases this
end
end M

/-! # rings of a record; a ring or an order -/
namespace M
open PySem L2 Z
section
variable {r : List Int × List NT4} {os cs : List Int} {ts l : List NT4} {note : NT4}
def lds (t u : NT4) : Prop := t.c = u.a ∧ t.d ≤ u.b
instance {t u : NT4} : Decidable (lds t u) := by unfold lds; infer_instance
structure Rng (ts l : List NT4) : Prop where
  ne : 0 < l.length
  mem : ∀ t ∈ l, t ∈ ts
  go : ∀ i t u, l[i]? = some t → l[(i + 1) % l.length]? = some u → lds t u
theorem Rng.prev (h : Rng ts l) {u : NT4} (hu : u ∈ l) : ∃ t ∈ l, lds t u := by
  obtain ⟨i, hi, rfl⟩ := List.mem_iff_getElem.mp hu
  have hn := h.ne
  by_cases c : i = 0
  · subst c
    have hj : l.length - 1 < l.length := by omega
    refine ⟨l[l.length - 1], List.getElem_mem _, h.go (l.length - 1) _ _ (List.getElem?_eq_getElem hj) ?_⟩
    rw [show l.length - 1 + 1 = l.length by omega, Nat.mod_self]
    exact List.getElem?_eq_getElem hi
  · have hj : i - 1 < l.length := by omega
    refine ⟨l[i - 1], List.getElem_mem _, h.go (i - 1) _ _ (List.getElem?_eq_getElem hj) ?_⟩
    rw [show i - 1 + 1 = i by omega, Nat.mod_eq_of_lt hi]
    exact List.getElem?_eq_getElem hi
/-! ## an order bars rings -/
theorem cnt_at {h d : Int} (h0 : 0 ≤ d) : ∀ j, d < (cntI h (os.take j) : Int) → ∃ i, i < j ∧ os[i]? = some h ∧ d = (cntI h (os.take i) : Int)
  | 0, hd => by
    have e : cntI h (os.take 0) = 0 := by simp [cntI]
    omega
  | j + 1, hd => by
    by_cases c : d < (cntI h (os.take j) : Int)
    · obtain ⟨i, a, b, e⟩ := cnt_at h0 j c
      exact ⟨i, by omega, b, e⟩
    · by_cases hj : j < os.length
      · have hx := List.getElem?_eq_getElem hj
        rw [take_snocN hx, cntI_snoc] at hd
        by_cases e : os[j] = h
        · rw [if_pos e] at hd
          exact ⟨j, by omega, by rw [hx, e], by omega⟩
        · rw [if_neg e] at hd
          omega
      · rw [List.take_of_length_le (by omega)] at hd
        rw [List.take_of_length_le (by omega)] at c
        omega
theorem no_ring (hr : RcL r) (io : ∀ h : Int, 0 ≤ h → h < r.1.length → (cntI h os : Int) = lAt r.1 h) (hk : Kept r.2 os) (hl : Rng r.2 l) : False := by
  have step : ∀ j u, u ∈ l → ¬ u.b < (cntI u.a (os.take j) : Int) := by
    intro j
    induction j using Nat.strongRecOn with
    | ind j ih =>
      intro u hu hd
      obtain ⟨t, ht, e1, e2⟩ := hl.prev hu
      have hn := hr.nt t (hl.mem t ht)
      obtain ⟨i, hi, h1, h2⟩ := cnt_at (os := os) (h := t.c) (d := t.d) hn.d0 j (by rw [e1]; omega)
      exact ih i hi t ht (hk i t.c h1 t (hl.mem t ht) rfl h2)
  obtain ⟨u, hu⟩ : ∃ u, u ∈ l := ⟨l[0]'hl.ne, List.getElem_mem _⟩
  have hn := hr.nt u (hl.mem u hu)
  refine step os.length u hu ?_
  rw [List.take_length, io u.a hn.a0 hn.a1]
  exact hn.b1
/-! ## where no hand may go on there is a ring -/
theorem pigeon {n : Nat} {s : Nat → Nat} (h : ∀ k, s k < n) : ∃ i j, i < j ∧ j ≤ n ∧ s i = s j := by
  apply Classical.byContradiction
  intro no
  have len : ∀ n (l : List Nat), l.Nodup → (∀ x ∈ l, x < n) → l.length ≤ n := by
    intro n
    induction n with
    | zero => intro l _ h; cases l with
      | nil => exact Nat.le_refl _
      | cons x l => exact absurd (h x List.mem_cons_self) (Nat.not_lt_zero _)
    | succ n ih =>
      intro l hn h
      have h1 := ih (l.erase n) (hn.erase n) fun x hx => by
        have h2 := h x (List.mem_of_mem_erase hx)
        have : x ≠ n := fun e => by
          subst e
          exact (List.Nodup.not_mem_erase hn) hx
        omega
      have h2 := List.length_erase_le (a := n) (l := l)
      have h3 : l.length ≤ (l.erase n).length + 1 := by
        by_cases c : n ∈ l
        · rw [List.length_erase_of_mem c]; omega
        · rw [List.erase_of_not_mem c]; omega
      omega
  have := len n ((List.range (n + 1)).map s) (by
    rw [List.nodup_iff_pairwise_ne, List.pairwise_map]
    refine List.Pairwise.imp_of_mem ?_ (List.pairwise_lt_range (n := n + 1))
    intro i j hi hj hij e
    exact no ⟨i, j, hij, by have := List.mem_range.mp hj; omega, e⟩) fun x hx => by
      obtain ⟨k, _, rfl⟩ := List.mem_map.mp hx
      exact h k
  rw [List.length_map, List.length_range] at this
  omega
def backs (g : Nat → Nat) (h0 : Nat) : Nat → Nat
  | 0 => h0
  | k + 1 => g (backs g h0 k)
theorem stuck_ring {P : List Int} (hr : RcL r) (hP : Stuck r P) : ∃ l, Rng r.2 l ∧ l.length ≤ 8 := by
  obtain ⟨hlen, hbd, hfr, hsum⟩ := hP
  -- a hand that is not done
  have ex : ∃ h : Nat, h < r.1.length ∧ lAt P h < lAt r.1 h := by
    apply Classical.byContradiction
    intro no
    have := sum_monoK (l := r.1) (m := P) hlen.symm fun x x0 x1 => by
      apply Classical.byContradiction
      intro c
      exact no ⟨x.toNat, by omega, by rw [show ((x.toNat : Nat) : Int) = x by omega]; omega⟩
    omega
  obtain ⟨h0, hh0, hh1⟩ := ex
  have hold : ∀ h : Nat, h < r.1.length → lAt P h < lAt r.1 h → ∃ t ∈ r.2, t.c = (h : Int) ∧ t.d = lAt P h ∧ lAt P t.a ≤ t.b := fun h a b => by
    have : heldB r.2 P h = true := by
      cases c : heldB r.2 P (h : Int) with
      | true => rfl
      | false =>
        have : (h : Int) ∈ freeL r P := mem_free.mpr ⟨by omega, by omega, b, c⟩
        rw [hfr] at this
        cases this
    exact heldB_iff.mp this
  have hf : ∃ f : Nat → NT4, ∀ h : Nat, h < r.1.length → lAt P h < lAt r.1 h → f h ∈ r.2 ∧ (f h).c = (h : Int) ∧ (f h).d = lAt P h ∧ lAt P (f h).a ≤ (f h).b := by
    refine ⟨fun h => if c : h < r.1.length ∧ lAt P h < lAt r.1 h then Classical.choose (hold h c.1 c.2) else ⟨0, 0, 0, 0⟩, fun h a b => ?_⟩
    have c : h < r.1.length ∧ lAt P h < lAt r.1 h := ⟨a, b⟩
    show (if c : h < r.1.length ∧ lAt P h < lAt r.1 h then Classical.choose (hold h c.1 c.2) else ⟨0, 0, 0, 0⟩) ∈ r.2 ∧ _
    simp only [dif_pos c]
    exact Classical.choose_spec (hold h a b)
  obtain ⟨f, hf⟩ := hf
  -- the hands, back and back
  have hs : ∃ s : Nat → Nat, (∀ k, s k < r.1.length ∧ lAt P ((s k : Nat) : Int) < lAt r.1 ((s k : Nat) : Int)) ∧ ∀ k, ((s (k + 1) : Nat) : Int) = (f (s k)).a := by
    have nx : ∀ h : Nat, h < r.1.length → lAt P h < lAt r.1 h → (f h).a.toNat < r.1.length ∧ lAt P ((f h).a.toNat : Nat) < lAt r.1 ((f h).a.toNat : Nat) ∧ (((f h).a.toNat : Nat) : Int) = (f h).a := fun h a b => by
      obtain ⟨m, _, _, q⟩ := hf h a b
      have hn := hr.nt _ m
      have e : (((f h).a.toNat : Nat) : Int) = (f h).a := by have := hn.a0; omega
      refine ⟨by have := hn.a1; omega, ?_, e⟩
      rw [e]
      have := hn.b1
      omega
    have ok : ∀ k, backs (fun h => (f h).a.toNat) h0 k < r.1.length ∧ lAt P ((backs (fun h => (f h).a.toNat) h0 k : Nat) : Int) < lAt r.1 ((backs (fun h => (f h).a.toNat) h0 k : Nat) : Int) := by
      intro k
      induction k with
      | zero => exact ⟨hh0, hh1⟩
      | succ k ih => exact ⟨(nx _ ih.1 ih.2).1, (nx _ ih.1 ih.2).2.1⟩
    exact ⟨backs (fun h => (f h).a.toNat) h0, ok, fun k => (nx _ (ok k).1 (ok k).2).2.2⟩
  obtain ⟨s, hs1, hs2⟩ := hs
  obtain ⟨i, j, hij, hjn, e⟩ := pigeon (n := r.1.length) (s := s) fun k => (hs1 k).1
  have h8 := hr.ct.len
  refine ⟨(List.range (j - i)).map fun m => f (s (j - 1 - m)), ⟨by rw [List.length_map, List.length_range]; omega, fun t ht => ?_, fun m t u ht hu => ?_⟩, by rw [List.length_map, List.length_range]; omega⟩
  · obtain ⟨m, _, rfl⟩ := List.mem_map.mp ht
    exact (hf _ (hs1 _).1 (hs1 _).2).1
  · rw [List.length_map, List.length_range] at hu
    have hm : m < j - i := by
      have := (List.getElem?_eq_some_iff.mp ht).1
      rwa [List.length_map, List.length_range] at this
    rw [List.getElem?_map, List.getElem?_range hm] at ht
    cases ht
    obtain ⟨_, a2, a3, _⟩ := hf _ (hs1 (j - 1 - m)).1 (hs1 (j - 1 - m)).2
    by_cases c : m + 1 < j - i
    · rw [Nat.mod_eq_of_lt c, List.getElem?_map, List.getElem?_range c] at hu
      cases hu
      obtain ⟨_, _, _, b4⟩ := hf _ (hs1 (j - 1 - (m + 1))).1 (hs1 (j - 1 - (m + 1))).2
      have e2 := hs2 (j - 1 - (m + 1))
      rw [show j - 1 - (m + 1) + 1 = j - 1 - m by omega] at e2
      refine ⟨by rw [a2, e2], ?_⟩
      rw [← e2] at b4
      rw [a3]; exact b4
    · rw [show m + 1 = j - i by omega, Nat.mod_self, List.getElem?_map, List.getElem?_range (by omega)] at hu
      cases hu
      obtain ⟨_, _, _, b4⟩ := hf _ (hs1 (j - 1 - 0)).1 (hs1 (j - 1 - 0)).2
      have e2 := hs2 (j - 1 - 0)
      rw [show j - 1 - 0 + 1 = j by omega] at e2
      have e3 : s (j - 1 - m) = s j := by rw [show j - 1 - m = i by omega, e]
      refine ⟨by rw [a2, e3, e2], ?_⟩
      rw [← e2] at b4
      rw [a3, e3]; exact b4
/-! ## chains of notes -/
inductive Ch (ts : List NT4) (note : NT4) : List NT4 → Int → Int → Prop
  | one : Ch ts note [note] note.c note.d
  | step {c : List NT4} {h m : Int} {t : NT4} (k : Ch ts note c h m) (ht : t ∈ ts) (ha : t.a = h) (hb : m ≤ t.b) : Ch ts note (c ++ [t]) t.c t.d
theorem Ch.len {c : List NT4} {h m : Int} (k : Ch ts note c h m) : 0 < c.length := by
  cases k with
  | one => exact Nat.succ_pos _
  | step k _ _ _ => rw [List.length_append]; exact Nat.succ_pos _
theorem Ch.spec {c : List NT4} {h m : Int} (k : Ch ts note c h m) (hn : note ∈ ts) : c[0]? = some note ∧ (∀ t ∈ c, t ∈ ts) ∧ (∀ i t u, c[i]? = some t → c[i + 1]? = some u → lds t u) ∧ ∃ t, c[c.length - 1]? = some t ∧ t.c = h ∧ t.d = m := by
  induction k with
  | one => exact ⟨rfl, fun t ht => by rw [List.mem_singleton.mp ht]; exact hn, fun i t u _ hu => by simp at hu, note, rfl, rfl, rfl⟩
  | @step c h m t k ht ha hb ih =>
    obtain ⟨i1, i2, i3, w, w1, w2, w3⟩ := ih
    have hc := k.len
    refine ⟨by rw [List.getElem?_append_left hc]; exact i1, fun x hx => ?_, fun i x u hx hu => ?_, t, by rw [List.length_append]; simp, rfl, rfl⟩
    · rcases List.mem_append.mp hx with z | z
      · exact i2 x z
      · rw [List.mem_singleton.mp z]; exact ht
    · by_cases e : i + 1 < c.length
      · rw [List.getElem?_append_left (by omega)] at hx
        rw [List.getElem?_append_left e] at hu
        exact i3 i x u hx hu
      · have hi : i + 1 = c.length := by
          have := (List.getElem?_eq_some_iff.mp hu).1
          rw [List.length_append, List.length_singleton] at this
          omega
        rw [List.getElem?_append_left (by omega)] at hx
        rw [hi, List.getElem?_append_right (Nat.le_refl _), Nat.sub_self] at hu
        cases hu
        rw [show i = c.length - 1 by omega, w1] at hx
        cases hx
        exact ⟨by rw [w2, ha], by rw [w3]; exact hb⟩
theorem Ch.ring {c : List NT4} {h m : Int} (k : Ch ts note c h m) (hn : note ∈ ts) (h1 : h = note.a) (h2 : m ≤ note.b) : Rng ts c := by
  obtain ⟨i1, i2, i3, w, w1, w2, w3⟩ := k.spec hn
  have hc := k.len
  refine ⟨hc, i2, fun i t u ht hu => ?_⟩
  have hi := (List.getElem?_eq_some_iff.mp ht).1
  by_cases e : i + 1 < c.length
  · rw [Nat.mod_eq_of_lt e] at hu
    exact i3 i t u ht hu
  · rw [show i + 1 = c.length by omega, Nat.mod_self, i1] at hu
    cases hu
    rw [show i = c.length - 1 by omega, w1] at ht
    cases ht
    exact ⟨by rw [w2, h1], by rw [w3]; exact h2⟩
theorem ring_ch (hl : Rng ts l) (h0 : l[0]? = some note) : ∃ m, Ch ts note l note.a m ∧ m ≤ note.b := by
  have pre : ∀ k t, l[k]? = some t → Ch ts note (l.take (k + 1)) t.c t.d := by
    intro k
    induction k with
    | zero =>
      intro t ht
      rw [h0] at ht
      cases ht
      have e : l.take (0 + 1) = [note] := by
        rw [take_snocN h0]; rfl
      rw [e]
      exact .one
    | succ k ih =>
      intro t ht
      have hk := (List.getElem?_eq_some_iff.mp ht).1
      have hk' := List.getElem?_eq_getElem (show k < l.length by omega)
      have ld := hl.go k _ t hk' (by rw [Nat.mod_eq_of_lt hk]; exact ht)
      rw [take_snocN ht]
      exact .step (ih _ hk') (hl.mem t (List.mem_of_getElem? ht)) ld.1.symm ld.2
  have hn := hl.ne
  have hk := List.getElem?_eq_getElem (show l.length - 1 < l.length by omega)
  have := pre (l.length - 1) _ hk
  rw [show l.length - 1 + 1 = l.length by omega, List.take_length] at this
  have ld := hl.go (l.length - 1) _ note hk (by rw [show l.length - 1 + 1 = l.length by omega, Nat.mod_self]; exact h0)
  exact ⟨_, by rw [ld.1] at this; exact this, ld.2⟩
/-! ## the program's -/
abbrev Ways := Dc Int (Int × List NT4)
theorem putG_wp2 {κ α : Type} [DecidableEq κ] {k : κ} {a : α} {m : Dc κ α} {Φ : Dc κ α → Prop} (h : m.length ≤ 10000000) (q : Φ (putM m k a)) : (putG m k a).run Φ := ⟨Nat.lt_of_le_of_lt h (by decide), q⟩
structure WInv (ts : List NT4) (note : NT4) (s : Nat) (w : Ways) : Prop where
  sound : ∀ h m c, valM w h = some (m, c) → Ch ts note c h m ∧ c.length ≤ s + 1
  comp : ∀ c h m, Ch ts note c h m → c.length ≤ s + 1 → ∃ m' c', valM w h = some (m', c') ∧ m' ≤ m
  size : w.length ≤ 1 + s * 99000
theorem mnLen_spec {α : Type} {xs : List (List α)} : (mnLen xs = none → xs = []) ∧ ∀ x, mnLen xs = some x → x ∈ xs ∧ ∀ y ∈ xs, x.length ≤ y.length := by
  have key := argBest_lt (fun i => (((xs.map (·.length)).getD i 0 : Nat) : Int)) (xs.length - 1)
  have e : atMin (xs.map (·.length)) = argBest (fun i j => decide ((((xs.map (·.length)).getD i 0 : Nat) : Int) < (((xs.map (·.length)).getD j 0 : Nat) : Int))) (xs.length - 1) := by unfold atMin; rw [List.length_map]
  rw [← e] at key
  have gl : ∀ i x, xs[i]? = some x → (xs.map (·.length)).getD i 0 = x.length := fun i x h => by rw [List.getD_eq_getElem?_getD, List.getElem?_map, h]; rfl
  refine ⟨fun h => ?_, fun x h => ⟨List.mem_of_getElem? h, fun y hy => ?_⟩⟩
  · unfold mnLen at h
    cases xs with
    | nil => rfl
    | cons a xs =>
      have := List.getElem?_eq_none_iff.mp h
      have := key.1
      rw [List.length_cons] at *
      omega
  · obtain ⟨j, hj, rfl⟩ := List.mem_iff_getElem.mp hy
    have h1 := key.2 j (by omega)
    rw [gl _ x h, gl j _ (List.getElem?_eq_getElem hj)] at h1
    omega
end
end M

/-! # orders, rings and cuts judged, for records of any length (k98) -/
namespace M
open PySem L2 Z
section
variable {r : List Int × List NT4} {os l s cs : List Int} {ts so : List NT4}
/-! ## orders -/
/-! ## rings -/
theorem n_at4 {l : List NT4} {x : Int} (h0 : 0 ≤ x) (h1 : x < l.length) : ∃ t, atI l x = some t := by
  obtain ⟨y, _, h⟩ := atI_some (xs := l) h0 h1
  exact ⟨y, h⟩
/-- whether a note of a list leads nowhere -/
def badT (ts so : List NT4) (at_ : Int) : Bool := match atI so at_, atI so ((at_ + 1) % (so.length : Int)) with
  | some a, some b => (!inD a ts) || ((!decide (a.c = b.a)) || decide (a.d > b.b))
  | _, _ => false
theorem badT_get {x : Int} (h0 : 0 ≤ x) (h1 : x < so.length) : ∃ a b, atI so x = some a ∧ atI so ((x + 1) % (so.length : Int)) = some b ∧ badT ts so x = ((!inD a ts) || ((!decide (a.c = b.a)) || decide (a.d > b.b))) := by
  obtain ⟨a, ea⟩ := n_at4 h0 h1
  obtain ⟨b, eb⟩ := n_at4 (l := so) (Int.emod_nonneg (x + 1) (by omega)) (Int.emod_lt_of_pos (x + 1) (b := (so.length : Int)) (by omega))
  exact ⟨a, b, ea, eb, by unfold badT; rw [ea, eb]⟩
def goodT (ts so : List NT4) : Bool := !((rng 0 (so.length : Int)).any (badT ts so)) && decide (0 < so.length)
theorem goodT_iff : goodT ts so = true ↔ Rng ts so := by
  have rd : ∀ i : Nat, i < so.length → (badT ts so (i : Int) = false ↔ ∃ a b, so[i]? = some a ∧ so[(i + 1) % so.length]? = some b ∧ a ∈ ts ∧ lds a b) := fun i hi => by
    obtain ⟨a, b, ea, eb, e⟩ := badT_get (ts := ts) (so := so) (x := (i : Int)) (by omega) (by omega)
    have hj : (i + 1) % so.length < so.length := Nat.mod_lt _ (by omega)
    have h1 := List.getElem?_eq_getElem hi
    have h2 := List.getElem?_eq_getElem hj
    rw [atI_nat h1] at ea
    rw [show ((i : Int) + 1) % (so.length : Int) = (((i + 1) % so.length : Nat) : Int) by norm_cast, atI_nat h2] at eb
    rw [e, h1, h2, ea, eb, inD_dec]
    constructor
    · intro h
      simp only [Bool.or_eq_false_iff, Bool.not_eq_false', decide_eq_true_eq, decide_eq_false_iff_not] at h
      exact ⟨a, b, rfl, rfl, h.1, h.2.1, by omega⟩
    · rintro ⟨a', b', e1, e2, h1, h2, h3⟩
      cases e1
      cases e2
      simp only [Bool.or_eq_false_iff, Bool.not_eq_false', decide_eq_true_eq, decide_eq_false_iff_not]
      exact ⟨h1, h2, by omega⟩
  unfold goodT
  rw [Bool.and_eq_true, decide_eq_true_eq, Bool.not_eq_true', List.any_eq_false]
  constructor
  · rintro ⟨h, hne⟩
    have all : ∀ i : Nat, i < so.length → ∃ a b, so[i]? = some a ∧ so[(i + 1) % so.length]? = some b ∧ a ∈ ts ∧ lds a b := fun i hi => (rd i hi).mp (Bool.not_eq_true _ ▸ h (i : Int) (rng_mem.mpr ⟨by omega, by omega⟩))
    refine ⟨hne, fun t ht => ?_, fun i t u ht hu => ?_⟩
    · obtain ⟨i, hi, rfl⟩ := List.mem_iff_getElem.mp ht
      obtain ⟨a, b, e1, _, e3, _⟩ := all i hi
      rw [List.getElem?_eq_getElem hi] at e1
      cases e1
      exact e3
    · obtain ⟨a, b, e1, e2, _, e4⟩ := all i (List.getElem?_eq_some_iff.mp ht).1
      rw [ht] at e1
      rw [hu] at e2
      cases e1
      cases e2
      exact e4
  · intro h
    refine ⟨fun x hx => ?_, h.ne⟩
    obtain ⟨x0, x1⟩ := rng_mem.mp hx
    obtain ⟨i, rfl⟩ : ∃ i : Nat, x = i := ⟨x.toNat, by omega⟩
    have hi : i < so.length := by omega
    have hj : (i + 1) % so.length < so.length := Nat.mod_lt _ (by omega)
    rw [Bool.not_eq_true]
    exact (rd i hi).mpr ⟨_, _, List.getElem?_eq_getElem hi, List.getElem?_eq_getElem hj, h.mem _ (List.getElem_mem _), h.go i _ _ (List.getElem?_eq_getElem hi) (List.getElem?_eq_getElem hj)⟩
theorem ite_app {α : Type} {c : Prop} [Decidable c] {A B : α} {Ψ : α → Prop} (h : Ψ (if c then A else B)) : if c then Ψ A else Ψ B := by
  by_cases e : c
  · rw [if_pos e] at h ⊢; exact h
  · rw [if_neg e] at h ⊢; exact h
/-! ## cuts -/
theorem cut_pre (hr : RcL r) (hk : Kept r.2 os) (n : Nat) : Cl r.2 fun h => (cntI h (os.take n) : Int) := fun t ht hd => by
  have hn := hr.nt t ht
  obtain ⟨i, hi, h1, h2⟩ := cnt_at (os := os) (h := t.c) (d := t.d) hn.d0 n hd
  have := hk i t.c h1 t ht rfl h2
  have := cntI_take (os := os) (h := t.a) (show i ≤ n by omega)
  show t.b < (cntI t.a (os.take n) : Int)
  omega
theorem pre_cl (hr : RcL r) (hk : Kept r.2 os) (n : Nat) : Cl r.2 (lAt (nowL r.1.length (os.take n))) := fun t ht hd => by
  have hn := hr.nt t ht
  rw [nowL_at hn.c0 hn.c1] at hd
  rw [nowL_at hn.a0 hn.a1]
  exact cut_pre hr hk n t ht hd
theorem pre_ok (hi : IsOrd r.1 os) (n : Nat) : CutOk r.1 (nowL r.1.length (os.take n)) := ⟨nowL_len, fun h h0 h1 => by
  rw [nowL_at h0 h1, ← hi.ct h h0 h1]
  have := cntI_take_all (os := os) (h := h) (i := n)
  omega⟩
theorem least_self (L : LeastOf r s l) (hs : CutOk r.1 s) (hc : Cl r.2 (lAt s)) : l = s :=
  lAt_ext (L.ok.len.trans hs.len.symm) fun x x0 x1 => by
    rw [L.ok.len] at x1
    exact Int.le_antisymm (L.mn _ hc (fun _ _ _ => Int.le_refl _) x x0 x1) (L.ge x x0 x1)
theorem greatest_self (L : GreatestOf r s l) (hs : CutOk r.1 s) (hc : Cl r.2 (lAt s)) : l = s :=
  lAt_ext (L.ok.len.trans hs.len.symm) fun x x0 x1 => by
    rw [L.ok.len] at x1
    exact Int.le_antisymm (L.le x x0 x1) (L.mx _ hc (fun _ _ _ => Int.le_refl _) x x0 x1)
/-! ## an order or a ring -/
theorem IsOrd.perm {a b : List Int} (h : IsOrd cs a) (p : a.Perm b) : IsOrd cs b := ⟨fun x x0 x1 => by
  rw [← h.ct x x0 x1]
  unfold cntI
  rw [p.count_eq], by rw [← h.len, p.length_eq]⟩
theorem ord_srt {a b : List Int} (ha : IsOrd cs a) (hb : IsOrd cs b) (ra : ∀ x ∈ a, 0 ≤ x ∧ x < cs.length) (rb : ∀ x ∈ b, 0 ≤ x ∧ x < cs.length) : srtI a = srtI b := by
  have p : a.Perm b := List.perm_iff_count.mpr fun x => by
    by_cases c : 0 ≤ x ∧ x < cs.length
    · have h1 := ha.ct x c.1 c.2
      have h2 := hb.ct x c.1 c.2
      unfold cntI at h1 h2
      omega
    · rw [List.count_eq_zero.mpr fun h => c (ra x h), List.count_eq_zero.mpr fun h => c (rb x h)]
  exact srtI_of ((srtI_perm a).trans p) (srtI_srt a)
theorem greedy_ord {o : List Int} (hn : nowL r.1.length o = r.1) (hl : (o.length : Int) = r.1.sum) : IsOrd r.1 o := ⟨fun h h0 h1 => by rw [← nowL_at h0 h1, hn], hl⟩
end
end M

/-! # how many orders: the layers of cuts, each with its ways -/
namespace M
open PySem L2 Z
section
variable {r : List Int × List NT4} {os cs : List Int} {n : Nat}
/-- the next turn of a hand -/
def stp (a : List Int) (h : Int) : List Int := a.set h.toNat (lAt a h + 1)
def succs (r : List Int × List NT4) (a : List Int) : List (List Int) := (freeL r a).map (stp a)
/-- all ways of so many turns -/
def Pth (r : List Int × List NT4) : Nat → List (List Int)
  | 0 => [[]]
  | t + 1 => (Pth r t).flatMap fun os => (freeL r (nowL r.1.length os)).map fun h => os ++ [h]
def Lay (r : List Int × List NT4) (t : Nat) : List (List Int) := (Pth r t).map (nowL r.1.length)
theorem lay_succ (t : Nat) : Lay r (t + 1) = (Lay r t).flatMap (succs r) := by
  unfold Lay
  show ((Pth r t).flatMap fun os => (freeL r (nowL r.1.length os)).map fun h => os ++ [h]).map (nowL r.1.length) = _
  rw [List.map_flatMap, List.flatMap_map]
  congr 1
  funext os
  unfold succs
  rw [List.map_map]
  refine List.map_congr_left fun h hh => ?_
  obtain ⟨h0, h1, _⟩ := mem_free.mp hh
  exact (nowL_step h0 h1).symm
theorem lay_zero : Lay r 0 = [List.replicate r.1.length 0] := by
  show [nowL r.1.length []] = _
  rw [nowL_nil]
/-! ## sums over a dict -/
theorem one_sum {α : Type} [DecidableEq α] {x : α} {f : α → Int} : ∀ {ks : List α}, ks.Nodup → x ∈ ks → (ks.map fun a => if a = x then f a else 0).sum = f x
  | k :: ks, nd, hx => by
    obtain ⟨n1, n2⟩ := List.nodup_cons.mp nd
    rw [List.map_cons, List.sum_cons]
    rcases List.mem_cons.mp hx with e | e
    · subst e
      have : (ks.map fun a => if a = x then f a else 0).sum = 0 := by
        clear hx nd n2
        induction ks with
        | nil => rfl
        | cons k ks ih =>
          rw [List.map_cons, List.sum_cons, ih fun h => n1 (List.mem_cons_of_mem _ h), if_neg fun (e : k = _) => n1 (by rw [← e]; exact List.mem_cons_self)]
          rfl
      rw [this, if_pos rfl]; omega
    · have ne : k ≠ x := fun q => n1 (q ▸ e)
      rw [if_neg ne, one_sum n2 e]; omega
theorem sum_add {α : Type} {f g : α → Int} : ∀ {ks : List α}, (ks.map fun a => f a + g a).sum = (ks.map f).sum + (ks.map g).sum
  | [] => rfl
  | k :: ks => by
    rw [List.map_cons, List.map_cons, List.map_cons, List.sum_cons, List.sum_cons, List.sum_cons, sum_add]; omega
theorem cnt_sum {α : Type} [DecidableEq α] [BEq α] [LawfulBEq α] {f : α → Int} {ks : List α} (nd : ks.Nodup) : ∀ {L : List α}, (∀ x ∈ L, x ∈ ks) → (ks.map fun a => (L.count a : Int) * f a).sum = (L.map f).sum
  | [], _ => by
    have : (ks.map fun a => (([] : List α).count a : Int) * f a) = ks.map fun _ => 0 := List.map_congr_left fun a _ => by simp
    rw [this]
    clear this nd
    have z : ∀ ks : List α, (ks.map fun _ => (0 : Int)).sum = 0 := fun ks => by
      induction ks with
      | nil => rfl
      | cons k ks ih => rw [List.map_cons, List.sum_cons, ih]; rfl
    exact z ks
  | x :: L, h => by
    have ih := cnt_sum (f := f) nd (L := L) fun y hy => h y (List.mem_cons_of_mem _ hy)
    have e : (ks.map fun a => (((x :: L).count a : Nat) : Int) * f a) = ks.map fun a => (L.count a : Int) * f a + if a = x then f a else 0 := List.map_congr_left fun a _ => by
      rw [List.count_cons]
      by_cases c : a = x
      · subst c
        simp only [beq_self_eq_true, if_true]
        rw [Int.natCast_add, Int.add_mul]; simp
      · rw [if_neg (by simpa using fun e => c e.symm), if_neg c]; simp
    rw [e, sum_add, ih, one_sum nd (h x List.mem_cons_self), List.map_cons, List.sum_cons]
    omega
/-! ## a layer -/
structure Rep (m : Dc (Tp Int) Int) (L : List (List Int)) : Prop where
  val : ∀ k : Tp Int, (valM m k).getD 0 = (L.count k.l : Int)
  nd : (m.map fun p => p.1.l).Nodup
  mem : ∀ p ∈ m, p.1.l ∈ L
theorem valM_mem {m : Dc (Tp Int) Int} : ∀ {p : Tp Int × Int}, (m.map fun p => p.1.l).Nodup → p ∈ m → valM m p.1 = some p.2 := by
  induction m with
  | nil => intro p _ h; cases h
  | cons q m ih =>
    intro p nd hp
    rw [List.map_cons] at nd
    obtain ⟨n1, n2⟩ := List.nodup_cons.mp nd
    obtain ⟨qk, qv⟩ := q
    rw [valM_cons]
    rcases List.mem_cons.mp hp with e | e
    · subst e
      rw [if_pos rfl]
    · have : qk ≠ p.1 := fun z => n1 (by subst z; exact List.mem_map.mpr ⟨p, e, rfl⟩)
      rw [if_neg this]
      exact ih n2 e
theorem key_mem {m : Dc (Tp Int) Int} {k : Tp Int} (h : (valM m k).isSome = true) : ∃ p ∈ m, p.1 = k := by
  rw [← anyM, List.any_eq_true] at h
  obtain ⟨p, hp, e⟩ := h
  exact ⟨p, hp, of_decide_eq_true e⟩
theorem Rep.keys {m : Dc (Tp Int) Int} {L : List (List Int)} (R : Rep m L) : ∀ x ∈ L, x ∈ m.map fun p => p.1.l := fun x hx => by
  have h1 := R.val ⟨x⟩
  have h2 := List.count_pos_iff.mpr hx
  have : (valM m (⟨x⟩ : Tp Int)).isSome = true := by
    cases e : valM m (⟨x⟩ : Tp Int) with
    | none => rw [e] at h1; simp at h1; exact absurd h1 (by omega)
    | some v => rfl
  obtain ⟨p, hp, e⟩ := key_mem this
  exact List.mem_map.mpr ⟨p, hp, by rw [e]⟩
theorem put_keys {m : Dc (Tp Int) Int} {k : Tp Int} {v : Int} : (putM m k v).map (fun p => p.1.l) = if (valM m k).isSome = true then m.map fun p => p.1.l else (m.map fun p => p.1.l) ++ [k.l] := by
  unfold putM
  rw [anyM]
  split
  · rw [List.map_map]
    refine List.map_congr_left fun p _ => ?_
    show (if p.1 = k then (p.1, v) else p).1.l = p.1.l
    split <;> rfl
  · rw [List.map_append]; rfl
theorem put_nd {m : Dc (Tp Int) Int} {k : Tp Int} {v : Int} (nd : (m.map fun p => p.1.l).Nodup) : ((putM m k v).map fun p => p.1.l).Nodup := by
  rw [put_keys]
  split
  · exact nd
  · rename_i c
    rw [List.nodup_append]
    refine ⟨nd, by simp, fun a ha b hb e => c ?_⟩
    rw [List.mem_singleton] at hb
    subst hb
    obtain ⟨p, hp, e2⟩ := List.mem_map.mp ha
    have : p.1 = k := by
      obtain ⟨⟨pl⟩, pv⟩ := p
      obtain ⟨kl⟩ := k
      simp only at e2 e ⊢
      rw [e2, e]
    rw [← this, valM_mem nd hp]; rfl
theorem put_mem {m : Dc (Tp Int) Int} {k : Tp Int} {v : Int} {p : Tp Int × Int} (hp : p ∈ putM m k v) : p.1.l ∈ (m.map fun p => p.1.l) ∨ p.1.l = k.l := by
  have : p.1.l ∈ (putM m k v).map fun p => p.1.l := List.mem_map.mpr ⟨p, hp, rfl⟩
  rw [put_keys] at this
  split at this
  · exact .inl this
  · rcases List.mem_append.mp this with q | q
    · exact .inl q
    · exact .inr (List.mem_singleton.mp q)
theorem cut_set {a : List Int} {h : Int} (h0 : 0 ≤ h) (h1 : h < a.length) {v : Int} : (Z.cut a none (some h) ++ [v]) ++ Z.cut a (some (h + 1)) none = a.set h.toNat v := by
  rw [cut_to h0, cut_from (by omega)]
  obtain ⟨k, rfl⟩ : ∃ k : Nat, h = k := ⟨h.toNat, by omega⟩
  rw [Int.toNat_natCast, show ((k : Int) + 1).toNat = k + 1 by omega, List.set_eq_take_append_cons_drop, if_pos (by omega)]
  simp
end
end M

/-! # the next layer, and all of them (k42) -/
namespace M
open PySem L2 Z
section
variable {r : List Int × List NT4} {os cs now : List Int} {n : Nat} {ts : List NT4}
theorem waitsT_wp {m : Dc (Int × Int) (List (Int × Int))} {h : Int} {Φ : List (Int × Int) → Prop} (hr : RcL r) (hm : Firsts r.2 m) (hn : now.length = r.1.length) (h0 : 0 ≤ h) (h1 : h < r.1.length)
    (q : ∀ ws : List (Int × Int), eqD ws ([] : List (Int × Int)) = !heldB r.2 now h → Φ ws) : (m_waits_for m ⟨now⟩ h).run Φ := by
  unfold m_waits_for
  simp only [run_bind, run_rt, run_opt]
  refine ⟨_, l_at h0 (by rw [hn]; exact h1), ?_⟩
  rw [hm]
  have hl := hr.len
  refine compG_wp (fun e => decide (e.2 ≥ lAt now e.1)) (fun e => e) (small (by have := fsts_len (ts := r.2) (key := (h, lAt now h)); omega)) (fun e he Ψ q => ?_) (fun _ _ _ Ψ q => by exact q) ?_
  · unfold fsts at he
    obtain ⟨t, ht, rfl⟩ := List.mem_map.mp he
    have hk := hr.nt t (List.mem_filter.mp ht).1
    simp only [run_bind, run_rt, run_opt]
    exact ⟨_, l_at hk.a0 (by rw [hn]; exact hk.a1), q⟩
  · rw [List.map_id']
    refine q _ ?_
    rw [eqD_dec]
    cases c : heldB r.2 now h with
    | true =>
      obtain ⟨t, t1, t2, t3, t4⟩ := heldB_iff.mp c
      refine decide_eq_false fun e => ?_
      rw [List.filter_eq_nil_iff] at e
      refine e (t.a, t.b) ?_ (by simpa using t4)
      unfold fsts
      exact List.mem_map.mpr ⟨t, List.mem_filter.mpr ⟨t1, by rw [decide_eq_true_eq, t2, t3]⟩, rfl⟩
    | false =>
      refine decide_eq_true ?_
      rw [List.filter_eq_nil_iff]
      intro e he z
      unfold fsts at he
      obtain ⟨t, ht, rfl⟩ := List.mem_map.mp he
      obtain ⟨t1, t2⟩ := List.mem_filter.mp ht
      rw [decide_eq_true_eq, Prod.mk.injEq] at t2
      rw [decide_eq_true_eq] at z
      have : heldB r.2 now h = true := heldB_iff.mpr ⟨t, t1, t2.1, t2.2, z⟩
      rw [c] at this
      cases this
theorem readyT_wp {m : Dc (Int × Int) (List (Int × Int))} {Φ : List Int → Prop} (hr : RcL r) (hm : Firsts r.2 m) (hn : now.length = r.1.length) (q : Φ (freeL r now)) : (m_ready r.1 m ⟨now⟩).run Φ := by
  have h8 := hr.ct.len
  unfold m_ready
  simp only [run_bind, run_rt, run_guard]
  refine ⟨⟨by decide, by decide, by omega, by omega⟩, ?_⟩
  refine compG_wp (fun h => decide (lAt now h < lAt r.1 h)) (fun h => h) (small (by rw [rng_len]; omega)) (fun y hy Ψ q => ?_) (fun _ _ _ Ψ q => by exact q) ?_
  · obtain ⟨y1, y2⟩ := rng_mem.mp hy
    simp only [run_bind, run_rt, run_opt]
    exact ⟨_, l_at y1 (by omega), _, l_at y1 y2, q⟩
  · rw [List.map_id']
    refine compG_wp (fun h => !heldB r.2 now h) (fun h => h) (small (Nat.le_trans (List.length_filter_le _ _) (by rw [rng_len]; omega))) (fun y hy Ψ q => ?_) (fun _ _ _ Ψ q => by exact q) ?_
    · obtain ⟨y1, y2⟩ := rng_mem.mp (List.mem_filter.mp hy).1
      simp only [run_bind, run_rt, run_guard]
      refine waitsT_wp hr hm hn y1 y2 fun ws hw => ⟨⟨okD_pl _, okD_pl _⟩, ?_⟩
      rw [hw]
      exact q
    · rw [List.map_id', List.filter_filter]
      have e : freeL r now = (rng 0 (r.1.length : Int)).filter fun h => (!heldB r.2 now h) && decide (lAt now h < lAt r.1 h) := by
        unfold freeL
        congr 1
        funext h
        rw [Bool.and_comm]
      rw [e] at q
      exact q

theorem stp_len {a : List Int} {h : Int} : (stp a h).length = a.length := by unfold stp; rw [List.length_set]
theorem free_len {a : List Int} : (freeL r a).length ≤ r.1.length := by
  unfold freeL
  exact Nat.le_trans (List.length_filter_le _ _) (by rw [rng_len]; omega)
theorem count_fm {α β : Type} [BEq β] [LawfulBEq β] {g : α → List β} {k : β} : ∀ {L : List α}, ((L.flatMap g).count k : Int) = (L.map fun x => ((g x).count k : Int)).sum
  | [] => rfl
  | x :: L => by rw [List.flatMap_cons, List.count_append, List.map_cons, List.sum_cons, ← count_fm (L := L)]; omega
theorem next_wp {fm : Dc (Int × Int) (List (Int × Int))} {here : Dc (Tp Int) Int} {L : List (List Int)} {Φ : Dc (Tp Int) Int × Dc (Tp Int) Int → Prop} (hr : RcL r) (hm : Firsts r.2 fm) (R : Rep here L) (hlen : ∀ x ∈ L, x.length = r.1.length) (hsz : here.length ≤ 5001)
    (q : ∀ there, Rep there (L.flatMap (succs r)) → Φ (there, here)) : (m_next_layer r.1 fm here).run Φ := by
  have h8 := hr.ct.len
  unfold m_next_layer
  simp only [run_bind, run_rt]
  refine forL_wp (fun i (there : Dc (Tp Int) Int) => (∀ k, (valM there k).getD 0 = ((here.take i).map fun p => p.2 * ((succs r p.1.l).count k.l : Int)).sum) ∧ (there.map fun p => p.1.l).Nodup ∧ (∀ p ∈ there, ∃ a ∈ here, p.1.l ∈ succs r a.1.l) ∧ there.length ≤ i * 8) ⟨fun k => rfl, List.nodup_nil, fun p hp => absurd hp List.not_mem_nil, Nat.le_refl _⟩ ?_ ?_
  · rintro i p there hp ⟨q1, q2, q3, q4⟩
    have hi := (List.getElem?_eq_some_iff.mp hp).1
    have hpm := List.mem_of_getElem? hp
    obtain ⟨⟨now⟩, ways⟩ := p
    have hn : now.length = r.1.length := hlen _ (R.mem _ hpm)
    have fl := free_len (r := r) (a := now)
    unfold m_next_layer_L2
    simp only [run_bind, run_rt]
    refine readyT_wp hr hm hn ?_
    refine forL_wp (fun j (t2 : Dc (Tp Int) Int) => (∀ k, (valM t2 k).getD 0 = (valM there k).getD 0 + ways * ((((freeL r now).take j).map (stp now)).count k.l : Int)) ∧ (t2.map fun p => p.1.l).Nodup ∧ (∀ p ∈ t2, ∃ a ∈ here, p.1.l ∈ succs r a.1.l) ∧ t2.length ≤ i * 8 + j) ⟨fun k => by simp, q2, q3, by omega⟩ ?_ ?_
    · rintro j h t2 hh ⟨p1, p2, p3, p4⟩
      have hj := (List.getElem?_eq_some_iff.mp hh).1
      obtain ⟨h0, h1, _⟩ := mem_free.mp (List.mem_of_getElem? hh)
      have hnow : h < now.length := by omega
      unfold m_next_layer_L1
      simp only [run_bind, run_rt, run_opt, run_guard]
      refine ⟨_, l_at h0 hnow, ?_⟩
      rw [cut_set h0 hnow]
      have c1 : (Z.cut now none (some h)).length ≤ now.length := by rw [cut_to h0, List.length_take]; omega
      have c2 : (Z.cut now (some (h + 1)) none).length ≤ now.length := by rw [cut_from (by omega), List.length_drop]; omega
      refine ⟨small (by simp; omega), small (by simp; omega), putG_wp (by omega) ⟨fun k => ?_, put_nd p2, fun p hp => ?_, Nat.le_trans putM_len (by omega)⟩⟩
      · rw [M.valM_put, take_snocN hh, List.map_append, List.count_append]
        by_cases e : k = (⟨now.set h.toNat (lAt now h + 1)⟩ : Tp Int)
        · subst e
          rw [if_pos rfl, Option.getD_some, p1]
          show _ = _ + ways * ((_ + [stp now h].count (stp now h) : Nat) : Int)
          rw [List.count_singleton_self, Int.natCast_add, Int.mul_add]
          have : ways * ((1 : Nat) : Int) = ways := by simp
          rw [this]
          omega
        · rw [if_neg e, p1]
          have : [stp now h].count k.l = 0 := List.count_eq_zero.mpr fun z => e (by
            have := List.mem_singleton.mp z
            obtain ⟨kl⟩ := k
            exact congrArg Tp.mk this)
          show _ = _ + ways * ((_ + [stp now h].count k.l : Nat) : Int)
          rw [this]; rfl
      · rcases put_mem hp with z | z
        · obtain ⟨p', hp', e'⟩ := List.mem_map.mp z
          obtain ⟨a, ha, hb⟩ := p3 p' hp'
          exact ⟨a, ha, e' ▸ hb⟩
        · exact ⟨_, hpm, by rw [z]; exact List.mem_map.mpr ⟨h, List.mem_of_getElem? hh, rfl⟩⟩
    · rintro t2 ⟨p1, p2, p3, p4⟩
      rw [List.take_length] at p1
      refine ⟨fun k => ?_, p2, p3, by omega⟩
      rw [p1, q1, take_snocN hp, List.map_append, List.sum_append]
      show _ = _ + (ways * ((succs r now).count k.l : Int) + 0)
      rw [Int.add_zero]
      rfl
  · rintro there ⟨q1, q2, q3, _⟩
    rw [List.take_length] at q1
    refine q there ⟨fun k => ?_, q2, fun p hp => ?_⟩
    · rw [q1, count_fm, ← cnt_sum (f := fun a => ((succs r a).count k.l : Int)) R.nd R.keys, List.map_map]
      congr 1
      refine List.map_congr_left fun p hp => ?_
      show p.2 * _ = (L.count p.1.l : Int) * _
      have := R.val p.1
      rw [valM_mem R.nd hp, Option.getD_some] at this
      rw [this]
    · obtain ⟨a, ha, hb⟩ := q3 p hp
      exact List.mem_flatMap.mpr ⟨_, R.mem a ha, hb⟩
/-! ## all layers -/
def boxL : List Int → List (List Int)
  | [] => [[]]
  | c :: cs => (rng 0 (c + 1)).flatMap fun x => (boxL cs).map (x :: ·)
theorem mem_box : ∀ {cs k : List Int}, k.length = cs.length → (∀ h : Int, 0 ≤ h → h < cs.length → 0 ≤ lAt k h ∧ lAt k h ≤ lAt cs h) → k ∈ boxL cs
  | [], [], _, _ => List.mem_singleton.mpr rfl
  | [], _ :: _, h, _ => by simp at h
  | _ :: _, [], h, _ => by simp at h
  | c :: cs, x :: k, h, q => by
    have q0 : 0 ≤ x ∧ x ≤ c := q 0 (by omega) (by rw [List.length_cons]; omega)
    refine List.mem_flatMap.mpr ⟨x, rng_mem.mpr ⟨q0.1, by omega⟩, List.mem_map.mpr ⟨k, mem_box (by simpa using h) fun y y0 y1 => ?_, rfl⟩⟩
    have := q (y + 1) (by omega) (by rw [List.length_cons]; omega)
    unfold lAt at this ⊢
    have e : (y + 1).toNat = y.toNat + 1 := by omega
    rw [e, List.getD_cons_succ, List.getD_cons_succ] at this
    exact this
theorem box_len {m : Nat} : ∀ {cs : List Int}, (∀ c ∈ cs, c < m) → (boxL cs).length ≤ m ^ cs.length
  | [], _ => Nat.le_refl _
  | c :: cs, h => by
    have ih := box_len (m := m) (cs := cs) fun d hd => h d (List.mem_cons_of_mem _ hd)
    have hc := h c List.mem_cons_self
    have : (boxL (c :: cs)).length = (rng 0 (c + 1)).length * (boxL cs).length := by
      show ((rng 0 (c + 1)).flatMap fun x => (boxL cs).map (x :: ·)).length = _
      generalize rng 0 (c + 1) = l
      induction l with
      | nil => simp
      | cons y l ih2 => rw [List.flatMap_cons, List.length_append, List.length_map, ih2, List.length_cons, Nat.succ_mul]; omega
    rw [this, List.length_cons, Nat.pow_succ, Nat.mul_comm]
    exact Nat.mul_le_mul ih (by rw [rng_len]; omega)
theorem nd_len {α : Type} [DecidableEq α] : ∀ {l m : List α}, l.Nodup → (∀ x ∈ l, x ∈ m) → l.length ≤ m.length
  | [], _, _, _ => Nat.zero_le _
  | x :: l, m, nd, h => by
    obtain ⟨n1, n2⟩ := List.nodup_cons.mp nd
    have hx := h x List.mem_cons_self
    have := nd_len (l := l) (m := m.erase x) n2 fun y hy => (List.mem_erase_of_ne fun (e : y = x) => n1 (by rw [← e]; exact hy)).mpr (h y (List.mem_cons_of_mem _ hy))
    rw [List.length_erase_of_mem hx] at this
    have := List.length_pos_of_mem hx
    rw [List.length_cons]; omega
end
end M

/-! # all layers; the orders are the ways (k42) -/
namespace M
open PySem L2 Z
section
variable {r : List Int × List NT4} {os cs x : List Int} {t : Nat}
theorem lay_ok (hr : RcL r) : ∀ t, ∀ x ∈ Lay r t, x.length = r.1.length ∧ (∀ h : Int, 0 ≤ h → h < r.1.length → 0 ≤ lAt x h ∧ lAt x h ≤ lAt r.1 h) ∧ x.sum = (t : Int)
  | 0, x, hx => by
    rw [lay_zero, List.mem_singleton] at hx
    subst hx
    refine ⟨by rw [List.length_replicate], fun h h0 h1 => ?_, by simp⟩
    rw [lAt_zero]
    exact ⟨Int.le_refl _, hr.ct.nn _ (lAt_mem h0 h1)⟩
  | t + 1, x, hx => by
    rw [lay_succ] at hx
    obtain ⟨a, ha, hx⟩ := List.mem_flatMap.mp hx
    obtain ⟨h, hh, rfl⟩ := List.mem_map.mp hx
    obtain ⟨a1, a2, a3⟩ := lay_ok hr t a ha
    obtain ⟨h0, h1, h2, _⟩ := mem_free.mp hh
    have hn : h < a.length := by omega
    refine ⟨by rw [stp_len, a1], fun y y0 y1 => ?_, ?_⟩
    · unfold stp
      rw [lAt_set h0 hn y0]
      have := a2 y y0 y1
      have ah := a2 h h0 h1
      split
      · rename_i e; subst e; omega
      · exact this
    · unfold stp
      rw [set_sum' h0 hn, a3]; omega
/-! ## paths -/
theorem pth_mem : ∀ {t : Nat} {os : List Int}, os ∈ Pth r t ↔ os.length = t ∧ ∀ i x, os[i]? = some x → x ∈ freeL r (nowL r.1.length (os.take i))
  | 0, os => by
    show os ∈ [[]] ↔ _
    rw [List.mem_singleton]
    constructor
    · rintro rfl
      exact ⟨rfl, fun i x h => by simp at h⟩
    · rintro ⟨h, _⟩
      exact List.length_eq_zero_iff.mp h
  | t + 1, os => by
    show os ∈ (Pth r t).flatMap _ ↔ _
    rw [List.mem_flatMap]
    constructor
    · rintro ⟨o, ho, hm⟩
      obtain ⟨h, hh, rfl⟩ := List.mem_map.mp hm
      obtain ⟨h1, h2⟩ := pth_mem.mp ho
      refine ⟨by rw [List.length_append, h1]; rfl, fun i x hx => ?_⟩
      by_cases c : i < o.length
      · rw [List.getElem?_append_left c] at hx
        rw [List.take_append_of_le_length (by omega)]
        exact h2 i x hx
      · rw [List.getElem?_append_right (by omega)] at hx
        have hi : i = o.length := by
          have := (List.getElem?_eq_some_iff.mp hx).1
          rw [List.length_singleton] at this
          omega
        subst hi
        simp only [Nat.sub_self, List.getElem?_cons_zero, Option.some.injEq] at hx
        subst hx
        rw [List.take_left]
        exact hh
    · rintro ⟨h1, h2⟩
      have hlt : t < os.length := by omega
      have hx := List.getElem?_eq_getElem hlt
      have e : os = os.take t ++ [os[t]] := by
        rw [← take_snocN hx, List.take_of_length_le (by omega)]
      refine ⟨os.take t, pth_mem.mpr ⟨by rw [List.length_take]; omega, fun i x hi => ?_⟩, List.mem_map.mpr ⟨os[t], h2 t _ hx, e.symm⟩⟩
      have hil := (List.getElem?_eq_some_iff.mp hi).1
      rw [List.length_take] at hil
      rw [List.getElem?_take] at hi
      rw [if_pos (by omega)] at hi
      rw [List.take_take, Nat.min_eq_left (by omega)]
      exact h2 i x hi
theorem nd_fm {α β : Type} {g : α → List β} : ∀ {l : List α}, l.Nodup → (∀ x ∈ l, (g x).Nodup) → (∀ x ∈ l, ∀ y ∈ l, x ≠ y → ∀ z ∈ g x, z ∉ g y) → (l.flatMap g).Nodup
  | [], _, _, _ => List.nodup_nil
  | x :: l, nd, h1, h2 => by
    obtain ⟨n1, n2⟩ := List.nodup_cons.mp nd
    rw [List.flatMap_cons, List.nodup_append]
    refine ⟨h1 x List.mem_cons_self, nd_fm n2 (fun y hy => h1 y (List.mem_cons_of_mem _ hy)) fun y hy z hz => h2 y (List.mem_cons_of_mem _ hy) z (List.mem_cons_of_mem _ hz), fun a ha b hb e => ?_⟩
    subst e
    obtain ⟨y, hy, hb⟩ := List.mem_flatMap.mp hb
    exact h2 x List.mem_cons_self y (List.mem_cons_of_mem _ hy) (fun e => n1 (e ▸ hy)) a ha hb
theorem free_nd {a : List Int} : (freeL r a).Nodup := by
  unfold freeL
  exact ((rng_pw _ _).filter _).imp fun h => by omega
theorem nd_map' {o : List Int} {l : List Int} (h : l.Nodup) : (l.map fun h => o ++ [h]).Nodup := by
  unfold List.Nodup
  rw [List.pairwise_map]
  exact h.imp fun hne e => hne (by simpa using e)
theorem pth_nd : ∀ t, (Pth r t).Nodup
  | 0 => by show [[]].Nodup; simp
  | t + 1 => nd_fm (pth_nd t) (fun o _ => nd_map' free_nd) fun o _ o' _ hne z hz hz' => by
    obtain ⟨h, _, rfl⟩ := List.mem_map.mp hz
    obtain ⟨h', _, e⟩ := List.mem_map.mp hz'
    have := congrArg List.dropLast e
    rw [List.dropLast_concat, List.dropLast_concat] at this
    exact hne this.symm
def Nr (r : List Int × List NT4) : Nat := (Pth r r.1.sum.toNat).length
theorem count_N (hr : RcL r) : (Lay r r.1.sum.toNat).count r.1 = Nr r := by
  have hs0 := sum_nn hr.ct.nn
  have : (Lay r r.1.sum.toNat).count r.1 = (Lay r r.1.sum.toNat).length := List.count_eq_length.mpr fun b hb => by
    obtain ⟨a1, a2, a3⟩ := lay_ok hr _ b hb
    exact (eq_of_sum a1 (fun x x0 x1 => (a2 x x0 (by omega)).2) (by omega)).symm
  rw [this]
  unfold Lay Nr
  rw [List.length_map]
/-- an order that keeps the record -/
structure Ord (r : List Int × List NT4) (os : List Int) : Prop where
  io : IsOrd r.1 os
  rg : ∀ x ∈ os, 0 ≤ x ∧ x < r.1.length
  kp : Kept r.2 os
theorem pth_ord (hr : RcL r) : os ∈ Pth r r.1.sum.toNat ↔ Ord r os := by
  have hs0 := sum_nn hr.ct.nn
  constructor
  · intro h
    obtain ⟨h1, h2⟩ := pth_mem.mp h
    have hl : nowL r.1.length os ∈ Lay r r.1.sum.toNat := List.mem_map.mpr ⟨os, h, rfl⟩
    obtain ⟨a1, a2, a3⟩ := lay_ok hr _ _ hl
    have e := eq_of_sum a1 (fun x x0 x1 => (a2 x x0 (by omega)).2) (by omega)
    refine ⟨⟨fun h h0 h1 => by rw [← nowL_at h0 h1, e], by omega⟩, fun x hx => ?_, fun j x hj t ht e1 e2 => ?_⟩
    · obtain ⟨i, hi, rfl⟩ := List.mem_iff_getElem.mp hx
      obtain ⟨x0, x1, _⟩ := mem_free.mp (h2 i _ (List.getElem?_eq_getElem hi))
      exact ⟨x0, x1⟩
    · obtain ⟨x0, x1, _, x3⟩ := mem_free.mp (h2 j x hj)
      have hk := hr.nt t ht
      apply Classical.byContradiction
      intro n
      have := heldB_iff.mpr ⟨t, ht, e1, by rw [nowL_at x0 x1]; exact e2, by rw [nowL_at hk.a0 hk.a1]; omega⟩
      rw [x3] at this
      cases this
  · rintro ⟨io, rg, kp⟩
    refine pth_mem.mpr ⟨by have := io.len; omega, fun i x hx => ?_⟩
    obtain ⟨x0, x1⟩ := rg x (List.mem_of_getElem? hx)
    refine mem_free.mpr ⟨x0, x1, ?_, ?_⟩
    · rw [nowL_at x0 x1, ← io.ct x x0 x1]
      have h1 := cnt_next hx (show i < i + 1 by omega)
      have h2 := cntI_take_all (os := os) (h := x) (i := i + 1)
      omega
    · cases c : heldB r.2 (nowL r.1.length (os.take i)) x with
      | false => rfl
      | true =>
        obtain ⟨t, t1, t2, t3, t4⟩ := heldB_iff.mp c
        have hk := hr.nt t t1
        rw [nowL_at x0 x1] at t3
        rw [nowL_at hk.a0 hk.a1] at t4
        have := kp i x hx t t1 t2 t3
        omega
/-- two records have as many orders where these are the same, told twice or not -/
theorem N_eq {l : List (List Int)} (hr : RcL r) (nd : l.Nodup) (h : ∀ os, os ∈ l ↔ Ord r os) : Nr r = l.length := by
  unfold Nr
  refine List.Perm.length_eq ?_
  exact (List.perm_ext_iff_of_nodup (pth_nd _) nd).mpr fun os => by rw [pth_ord hr, h]
end
end M

/-! # k41: cuts and orders counted -/
namespace M
open PySem L2 Z
theorem exm_run2 {α β : Type} {c : W (Ex α)} {f : α → W β} {g : Er → W β} {Φ : β → Prop} : (W.exm c f g).run Φ = c.run fun r => match r with | .ok a => (f a).run Φ | .er e => (g e).run Φ := by
  refine propext ⟨fun h => ?_, fun h => ?_⟩
  · unfold W.exm at h
    rw [run_bind] at h
    exact run_mono h fun r hr => by cases r <;> exact hr
  · unfold W.exm
    rw [run_bind]
    exact run_mono h fun r hr => by cases r <;> exact hr
theorem note_some_wp {B : Nat} {s : Bag} {cs : List Int} {Φ : Option NT4 × Bag → Prop} (hs : BagOk B s) (hB : B < 2 ^ 39) (hc : CtOk cs) (h2 : 2 ≤ cs.length) (hp : ∀ c ∈ cs, 0 < c)
    (k : ∀ t s', NtOk cs t → BagOk (B + 4) s' → Φ (some t, s')) : (m_law_note s cs).run Φ := by
  have h8 := hc.len
  unfold m_law_note
  simp only [run_bind, run_bind2, run_rt, run_guard, run_opt, run_if, decide_eq_true_eq]
  refine ⟨⟨by decide, by decide, by omega, by omega⟩, ?_⟩
  refine compG_wp (fun h => decide (lAt cs h > 0)) (fun h => h) (small (by rw [rng_len]; omega)) (fun y hy Ψ q => ?_) (fun _ _ _ Ψ q => by exact q) ?_
  · obtain ⟨z1, z2⟩ := rng_mem.mp hy
    simp only [run_bind, run_opt, run_rt, l_at z1 z2, Option.some.injEq, exists_eq_left']
    exact q
  · rw [List.map_id']
    have pw : ((rng 0 (cs.length : Int)).filter fun h => decide (lAt cs h > 0)).Pairwise (· < ·) := (rng_pw _ _).filter _
    have mem : ∀ y, y ∈ ((rng 0 (cs.length : Int)).filter fun h => decide (lAt cs h > 0)) ↔ 0 ≤ y ∧ y < cs.length ∧ 0 < lAt cs y := fun y => by
      rw [List.mem_filter, rng_mem, decide_eq_true_eq, and_assoc]
    have hl : ((rng 0 (cs.length : Int)).filter fun h => decide (lAt cs h > 0)).length ≤ 8 := by
      refine Nat.le_trans (List.length_filter_le _ _) ?_
      rw [rng_len]; omega
    have hl2 : 2 ≤ ((rng 0 (cs.length : Int)).filter fun h => decide (lAt cs h > 0)).length := by
      rw [List.filter_eq_self.mpr fun y hy => by
        obtain ⟨y1, y2⟩ := rng_mem.mp hy
        exact decide_eq_true (hp _ (lAt_mem y1 y2))]
      rw [rng_len]; omega
    generalize ((rng 0 (cs.length : Int)).filter fun h => decide (lAt cs h > 0)) = sm at pw mem hl hl2 ⊢
    split
    · omega
    · refine draw_wp hs (by omega) (by omega) (by omega) fun i s1 a1 a2 hs1 => ?_
      refine draw_wp hs1 (by omega) (by omega) (by omega) fun d s2 b1 b2 hs2 => ?_
      dsimp only
      refine ⟨by omega, ?_⟩
      obtain ⟨j, hj, j0, j1, jne⟩ : ∃ j, (i + 1 + d) % (sm.length : Int) = j ∧ 0 ≤ j ∧ j < sm.length ∧ j ≠ i := by
        refine ⟨_, rfl, Int.emod_nonneg _ (by omega), Int.emod_lt_of_pos _ (by omega), fun z => ?_⟩
        by_cases c : i + 1 + d < sm.length
        · rw [Int.emod_eq_of_lt (by omega) c] at z; omega
        · have e : (i + 1 + d) % (sm.length : Int) = (i + 1 + d - sm.length) % (sm.length : Int) := by rw [Int.sub_emod_right]
          rw [e, Int.emod_eq_of_lt (by omega) (by omega)] at z; omega
      rw [hj]
      have ei := l_at (l := sm) a1 a2
      have ej := l_at (l := sm) j0 j1
      obtain ⟨x1, x2, x3⟩ := (mem _).mp (lAt_mem (l := sm) a1 a2)
      obtain ⟨y1, y2, y3⟩ := (mem _).mp (lAt_mem (l := sm) j0 j1)
      have hne : lAt sm i ≠ lAt sm j := by
        unfold lAt
        rw [List.getD_eq_getElem?_getD, List.getD_eq_getElem?_getD, List.getElem?_eq_getElem (by omega), List.getElem?_eq_getElem (by omega)]
        show sm[i.toNat]'(by omega) ≠ sm[j.toNat]'(by omega)
        rw [List.pairwise_iff_getElem] at pw
        rcases Nat.lt_or_gt_of_ne (show i.toNat ≠ j.toNat by omega) with q | q
        · have := pw _ _ (by omega) (by omega) q; omega
        · have := pw _ _ (by omega) (by omega) q; omega
      have big := fun {x : Int} (h0 : 0 ≤ x) (h1 : x < cs.length) => Int.le_trans (le_sum hc.nn (lAt_mem h0 h1)) hc.sum
      have bx := big x1 x2
      have bY := big y1 y2
      refine ⟨_, ei, _, ei, _, l_at x1 x2, ?_⟩
      refine draw_wp hs2 (by omega) x3 (by omega) fun p s3 c1 c2 hs3 => ?_
      dsimp only
      refine ⟨_, ej, _, ej, _, l_at y1 y2, ?_⟩
      refine draw_wp hs3 (by omega) y3 (by omega) fun q s4 d1 d2 hs4 => ?_
      exact k _ _ ⟨x1, x2, c1, c2, y1, y2, d1, d2, hne⟩ (hs4.mo (by omega))
section
variable {r : List Int × List NT4}
theorem needrec_x {Φ : Ex Unit → Prop} (hr : RcG r) (q : Φ (.ok ())) : (m_need_record r).run Φ := by
  unfold m_need_record
  rw [run_bind, run_rt]
  dsimp only
  rw [run_bind]
  refine forC_any (fun _ => false) (Ex.er ⟨0, .none⟩) (fun x hx Ψ h => ?_) ?_
  · have hn := hr.nt x hx
    unfold m_need_record_L1
    rw [run_bind, run_if, if_neg (by simpa using hn.ne), run_bind]
    refine istouch_wp hn.a0 hn.a1 hn.b0 hn.b1 ?_
    rw [run_bind, run_if, if_neg (by decide), run_bind]
    refine istouch_wp hn.c0 hn.c1 hn.d0 hn.d1 ?_
    simp only [run_rt, run_if]
    exact h
  · have : (r.2.any fun _ => false) = false := by simp
    rw [this, if_neg Bool.false_ne_true]
    exact q
/-! ### how many cuts -/
def dd : List (List Int) → List (List Int)
  | [] => []
  | x :: l => if x ∈ l then dd l else x :: dd l
theorem dd_mem {x : List Int} : ∀ {l : List (List Int)}, x ∈ dd l ↔ x ∈ l
  | [] => Iff.rfl
  | y :: l => by
    unfold dd
    split
    · rename_i h
      rw [dd_mem, List.mem_cons]
      constructor
      · exact fun z => .inr z
      · rintro (rfl | z)
        · exact h
        · exact z
    · rw [List.mem_cons, List.mem_cons, dd_mem]
theorem dd_nd : ∀ l : List (List Int), (dd l).Nodup
  | [] => List.nodup_nil
  | y :: l => by
    unfold dd
    split
    · exact dd_nd l
    · rename_i h
      exact List.nodup_cons.mpr ⟨fun z => h (dd_mem.mp z), dd_nd l⟩
theorem Rep.len {m : Dc (Tp Int) Int} {L : List (List Int)} (R : Rep m L) : m.length = (dd L).length := by
  have h1 := nd_len R.nd (m := dd L) fun x hx => by
    obtain ⟨p, hp, rfl⟩ := List.mem_map.mp hx
    exact dd_mem.mpr (R.mem p hp)
  have h2 := nd_len (dd_nd L) (m := m.map fun p => p.1.l) fun x hx => R.keys x (dd_mem.mp hx)
  rw [List.length_map] at h1 h2
  omega
def Mt (r : List Int × List NT4) : Nat → Nat
  | 0 => 1
  | t + 1 => Mt r t + (dd (Lay r (t + 1))).length
theorem Mt_mono {a b : Nat} (h : a ≤ b) : Mt r a ≤ Mt r b := by
  induction b with
  | zero => rw [Nat.le_zero.mp h]; exact Nat.le_refl _
  | succ b ih =>
    rcases Nat.lt_or_ge a (b + 1) with c | c
    · have := ih (Nat.le_of_lt_succ c)
      show _ ≤ Mt r b + _
      omega
    · rw [show a = b + 1 by omega]
      exact Nat.le_refl _
theorem dd_Mt : ∀ t, (dd (Lay r t)).length ≤ Mt r t
  | 0 => by rw [lay_zero]; show (dd [_]).length ≤ 1; simp [dd]
  | t + 1 => Nat.le_add_left _ _
theorem rep0 : Rep [((⟨List.replicate r.1.length 0⟩ : Tp Int), (1 : Int))] (Lay r 0) := by
  refine ⟨fun k => ?_, by simp, fun p hp => ?_⟩
  · rw [lay_zero, valM_cons]
    by_cases e : (⟨List.replicate r.1.length 0⟩ : Tp Int) = k
    · subst e
      rw [if_pos rfl]; simp
    · rw [if_neg e]
      have : [List.replicate r.1.length (0 : Int)].count k.l = 0 := List.count_eq_zero.mpr fun z => e (by
        have := List.mem_singleton.mp z
        obtain ⟨kl⟩ := k
        exact congrArg Tp.mk this.symm)
      rw [this]; rfl
  · rw [List.mem_singleton.mp hp, lay_zero]; exact List.mem_singleton.mpr rfl
theorem layers_x {most : Int} {Φ : Ex (Int × Int) → Prop} (hr : RcL r) (hb : most ≤ 5000)
    (q : Φ (if (Mt r r.1.sum.toNat : Int) ≤ most then .ok ((Mt r r.1.sum.toNat : Int), ((Lay r r.1.sum.toNat).count r.1 : Int)) else .er ⟨1, .none⟩)) : (m_layers r most).run Φ := by
  have h8 := hr.ct.len
  have hs0 := sum_nn hr.ct.nn
  have hs := hr.ct.sum
  unfold m_layers
  rw [exm_run2]
  refine needrec_x hr.g ?_
  dsimp only
  rw [run_bind, run_rt, run_bind]
  refine firsts_wp (by have := hr.len; omega) fun fm hm => ?_
  obtain ⟨z1, z2⟩ := repZ (n := r.1.length) (by omega)
  rw [run_bind, run_rt, run_guard]
  refine ⟨z1, ?_⟩
  rw [z2, run_bind, run_rt, run_bind, run_rt, run_guard, run_bind]
  refine ⟨⟨by decide, by decide, by omega, by omega⟩, ?_⟩
  refine forL_wp (fun i (p : Dc (Tp Int) Int × Int) => (p.2 ≤ most ∧ p.2 = (Mt r i : Int) ∧ Rep p.1 (Lay r i)) ∨ (most < p.2 ∧ ∃ g, g ≤ i ∧ p.2 = (Mt r g : Int))) ?_ ?_ ?_
  · dsimp only
    have e1 : ((([((⟨List.replicate r.1.length 0⟩ : Tp Int), (1 : Int))] : Dc (Tp Int) Int)).length : Int) = 1 := rfl
    rw [e1]
    by_cases c : (1 : Int) ≤ most
    · exact .inl ⟨c, rfl, rep0⟩
    · exact .inr ⟨by omega, 0, Nat.le_refl _, rfl⟩
  · rintro i y ⟨here, many⟩ _ hI
    dsimp only at hI
    unfold m_layers_L1
    rw [run_bind, run_if]
    rcases hI with ⟨c, em, R⟩ | ⟨c, g, hg, em⟩
    · rw [if_pos (decide_eq_true c), run_bind2]
      have hk : here.length ≤ 5001 := by
        have := R.len
        have := dd_Mt (r := r) i
        omega
      refine next_wp hr hm R (fun x hx => (lay_ok hr i x hx).1) hk fun there R2 => ?_
      rw [← lay_succ] at R2
      dsimp only
      simp only [run_bind, run_rt]
      have el := R2.len
      have eM : Mt r (i + 1) = Mt r i + (dd (Lay r (i + 1))).length := rfl
      by_cases c2 : many + (there.length : Int) ≤ most
      · exact .inl ⟨c2, by omega, R2⟩
      · exact .inr ⟨by omega, i + 1, Nat.le_refl _, by omega⟩
    · rw [if_neg (by simpa using c)]
      simp only [run_rt]
      exact .inr ⟨c, g, by omega, em⟩
  · rintro ⟨here, many⟩ hI
    rw [rng_len, Int.sub_zero] at hI
    dsimp only at hI ⊢
    rw [run_if]
    rcases hI with ⟨c, em, R⟩ | ⟨c, g, hg, em⟩
    · rw [if_neg (by simpa using c), run_rt, R.val, em]
      rw [if_pos (by omega)] at q
      exact q
    · rw [if_pos (decide_eq_true c), run_rt]
      have := Mt_mono (r := r) hg
      rw [if_neg (by omega)] at q
      exact q
theorem cuts_x {most : Int} {Φ : Ex Int → Prop} (hr : RcL r) (hb : most ≤ 5000) (q : Φ (if (Mt r r.1.sum.toNat : Int) ≤ most then .ok (Mt r r.1.sum.toNat : Int) else .er ⟨1, .none⟩)) : (m_how_many_cuts r most).run Φ := by
  unfold m_how_many_cuts
  rw [exm_run2]
  refine layers_x hr hb ?_
  split at q
  · rename_i c; rw [if_pos c]; exact q
  · rename_i c; rw [if_neg c]; exact q
theorem orders_x {most : Int} {Φ : Ex Int → Prop} (hr : RcL r) (hb : most ≤ 5000) (q : Φ (if (Mt r r.1.sum.toNat : Int) ≤ most then .ok ((Lay r r.1.sum.toNat).count r.1 : Int) else .er ⟨1, .none⟩)) : (m_how_many_orders r most).run Φ := by
  unfold m_how_many_orders
  rw [exm_run2]
  refine layers_x hr hb ?_
  split at q
  · rename_i c; rw [if_pos c]; exact q
  · rename_i c; rw [if_neg c]; exact q
/-! ### the law's layers -/
theorem srtD_wp {m : Dc (Tp Int) Int} {Φ : List (Tp Int) → Prop} (h : ∃ d, 1 ≤ d ∧ ∀ x ∈ m, x.1.l.length = d) (q : ∀ ys : List (Tp Int), ys.Perm (m.map fun x : Tp Int × Int => x.1) → Φ ys) : (srtD m).run Φ := ⟨h, q⟩
theorem perm_sum {a b : List Int} (h : a.Perm b) : a.sum = b.sum := by
  induction h with
  | nil => rfl
  | cons x _ ih => rw [List.sum_cons, List.sum_cons, ih]
  | swap x y l => simp only [List.sum_cons]; omega
  | trans _ _ ih1 ih2 => rw [ih1, ih2]
theorem rng_at' {a b : Int} {i : Nat} (h : i < (b - a).toNat) : (rng a b)[i]? = some (a + i) := by
  unfold rng
  rw [List.getElem?_map, List.getElem?_range h]
  rfl
theorem stp_map {now : List Int} {h : Int} (h0 : 0 ≤ h) (h1 : h < now.length) : (rng 0 (now.length : Int)).map (fun k => lAt now k + (if (decide (k = h)) then (1 : Int) else 0)) = stp now h := by
  unfold stp
  refine List.ext_getElem? fun i => ?_
  rw [List.getElem?_map, List.getElem?_set]
  by_cases c : i < now.length
  · rw [rng_at' (by omega)]
    have e1 : lAt now (0 + (i : Int)) = now[i] := by
      unfold lAt
      rw [List.getD_eq_getElem?_getD, show (0 + (i : Int)).toNat = i by omega, List.getElem?_eq_getElem c]
      rfl
    show some (lAt now (0 + (i : Int)) + _) = _
    by_cases e : h.toNat = i
    · rw [if_pos e, if_pos (show h.toNat < now.length by omega), e1]
      have : (0 + (i : Int)) = h := by omega
      have e2 : lAt now h = now[i] := by rw [← this, e1]
      rw [e2, decide_eq_true this]
      rfl
    · rw [if_neg e, e1, List.getElem?_eq_getElem c, decide_eq_false (by omega)]
      simp
  · rw [List.getElem?_eq_none (by rw [rng_len]; omega)]
    split
    · rw [if_neg (by omega)]; rfl
    · rw [List.getElem?_eq_none (by omega)]; rfl
theorem lay_wp {here : Dc (Tp Int) Int} {L : List (List Int)} {Φ : Dc (Tp Int) Int → Prop} (hr : RcL r) (h1 : 1 ≤ r.1.length) (R : Rep here L) (hlen : ∀ x ∈ L, x.length = r.1.length) (hsz : here.length ≤ 5001)
    (q : ∀ there, Rep there (L.flatMap (succs r)) → Φ there) : (m_law_layer r here).run Φ := by
  have h8 := hr.ct.len
  have hl2 := hr.len
  unfold m_law_layer
  rw [run_bind, run_rt]
  dsimp only
  rw [run_bind, run_rt, run_bind]
  refine srtD_wp ⟨r.1.length, h1, fun x hx => hlen _ (R.mem x hx)⟩ fun ys hys => ?_
  have ymem : ∀ y ∈ ys, ∃ p ∈ here, p.1 = y := fun y hy => by
    obtain ⟨p, hp, e⟩ := List.mem_map.mp (hys.mem_iff.mp hy)
    exact ⟨p, hp, e⟩
  have ylen : ys.length = here.length := by rw [hys.length_eq, List.length_map]
  rw [run_bind]
  refine forL_wp (fun i (there : Dc (Tp Int) Int) => (∀ k, (valM there k).getD 0 = ((ys.take i).map fun y => (valM here y).getD 0 * ((succs r y.l).count k.l : Int)).sum) ∧ (there.map fun p => p.1.l).Nodup ∧ (∀ p ∈ there, ∃ a ∈ here, p.1.l ∈ succs r a.1.l) ∧ there.length ≤ i * 8) ⟨fun k => rfl, List.nodup_nil, fun p hp => absurd hp List.not_mem_nil, Nat.le_refl _⟩ ?_ ?_
  · rintro i y there hy ⟨q1, q2, q3, q4⟩
    have hi := (List.getElem?_eq_some_iff.mp hy).1
    obtain ⟨p, hpm, epy⟩ := ymem y (List.mem_of_getElem? hy)
    subst epy
    obtain ⟨⟨now⟩, ways⟩ := p
    have hn : now.length = r.1.length := hlen _ (R.mem _ hpm)
    have ev : valM here (⟨now⟩ : Tp Int) = some ways := valM_mem R.nd hpm
    unfold m_law_layer_L2
    rw [run_bind]
    dsimp only
    refine compG_wp (fun t => decide (t.d = lAt now t.c) && decide (t.b ≥ lAt now t.a)) (fun t => t.c) (small (by omega)) (fun t ht Ψ q => ?_) (fun _ _ _ Ψ q => by exact q) ?_
    · have hk := hr.nt t ht
      rw [run_bind, run_opt]
      refine ⟨_, l_at hk.c0 (by rw [hn]; exact hk.c1), ?_⟩
      rw [run_bind, run_if]
      by_cases c : t.d = lAt now t.c
      · rw [if_pos (decide_eq_true c), run_bind, run_opt]
        refine ⟨_, l_at hk.a0 (by rw [hn]; exact hk.a1), ?_⟩
        rw [run_rt, run_rt]
        rw [decide_eq_true c, Bool.true_and] at q
        exact q
      · rw [if_neg (by simpa using c), run_rt, run_rt]
        rw [decide_eq_false c, Bool.false_and] at q
        exact q
    generalize hheld : (r.2.filter fun t => decide (t.d = lAt now t.c) && decide (t.b ≥ lAt now t.a)).map (fun t => t.c) = held
    have heldlen : held.length ≤ 99000 := by
      rw [← hheld, List.length_map]
      exact Nat.le_trans (List.length_filter_le _ _) hl2
    have held_iff : ∀ h : Int, h ∈ held ↔ heldB r.2 now h = true := fun h => by
      rw [heldB_iff, ← hheld, List.mem_map]
      constructor
      · rintro ⟨t, ht, e⟩
        obtain ⟨t1, t2⟩ := List.mem_filter.mp ht
        rw [Bool.and_eq_true, decide_eq_true_eq, decide_eq_true_eq] at t2
        exact ⟨t, t1, e, by rw [← e]; exact t2.1, t2.2⟩
      · rintro ⟨t, t1, e, t2, t3⟩
        refine ⟨t, List.mem_filter.mpr ⟨t1, ?_⟩, e⟩
        rw [Bool.and_eq_true, decide_eq_true_eq, decide_eq_true_eq]
        exact ⟨by rw [e]; exact t2, t3⟩
    rw [run_bind, run_rt, run_guard, run_bind]
    refine ⟨⟨by decide, by decide, by omega, by omega⟩, ?_⟩
    refine forL_wp (fun j (t2 : Dc (Tp Int) Int) => (∀ k, (valM t2 k).getD 0 = (valM there k).getD 0 + ways * (((((rng 0 (r.1.length : Int)).take j).filter fun h => decide (lAt now h < lAt r.1 h) && !heldB r.2 now h).map (stp now)).count k.l : Int)) ∧ (t2.map fun p => p.1.l).Nodup ∧ (∀ p ∈ t2, ∃ a ∈ here, p.1.l ∈ succs r a.1.l) ∧ t2.length ≤ i * 8 + j) ⟨fun k => by simp, q2, q3, by omega⟩ ?_ ?_
    · rintro j h t2 hh ⟨p1, p2, p3, p4⟩
      have hj := (List.getElem?_eq_some_iff.mp hh).1
      rw [rng_len] at hj
      obtain ⟨h0, hh1⟩ := rng_mem.mp (List.mem_of_getElem? hh)
      have hnow : h < now.length := by omega
      unfold m_law_layer_L1
      rw [run_bind, run_opt]
      refine ⟨_, l_at h0 hnow, ?_⟩
      rw [run_bind, run_opt]
      refine ⟨_, l_at h0 hh1, ?_⟩
      have tk := take_snocN hh
      have skip : (decide (lAt now h < lAt r.1 h) && !heldB r.2 now h) = false → (∀ k, (valM t2 k).getD 0 = (valM there k).getD 0 + ways * (((((rng 0 (r.1.length : Int)).take (j + 1)).filter fun h => decide (lAt now h < lAt r.1 h) && !heldB r.2 now h).map (stp now)).count k.l : Int)) ∧ (t2.map fun p => p.1.l).Nodup ∧ (∀ p ∈ t2, ∃ a ∈ here, p.1.l ∈ succs r a.1.l) ∧ t2.length ≤ i * 8 + (j + 1) := fun e => by
        refine ⟨fun k => ?_, p2, p3, by omega⟩
        rw [tk, List.filter_append, List.filter_cons_of_neg (by rw [e]; decide), List.filter_nil, List.append_nil]
        exact p1 k
      rw [run_bind, run_if]
      by_cases c : lAt now h < lAt r.1 h
      · rw [if_pos (decide_eq_true c), run_guard, run_rt]
        refine ⟨⟨okD_pl _, okD_pl _⟩, ?_⟩
        rw [inD_dec, run_bind, run_if]
        by_cases ch : heldB r.2 now h = true
        · rw [decide_eq_true ((held_iff h).mpr ch), if_neg (by decide), run_rt, run_rt]
          exact skip (by rw [ch]; simp)
        · rw [decide_eq_false (fun z => ch ((held_iff h).mp z)), if_pos (by decide), run_guard, run_bind]
          refine ⟨⟨by decide, by decide, by omega, by omega⟩, ?_⟩
          refine compG_wp (fun _ => true) (fun k => lAt now k + (if (decide (k = h)) then (1 : Int) else 0)) (small (by rw [rng_len]; omega)) (fun _ _ Ψ q => by exact q) (fun k hk _ Ψ q => ?_) ?_
          · obtain ⟨k0, k1⟩ := rng_mem.mp hk
            rw [run_bind, run_opt]
            exact ⟨_, l_at k0 (by show k < (now.length : Int); omega), q⟩
          rw [List.filter_eq_self.mpr fun _ _ => rfl]
          have es := stp_map h0 hnow
          rw [hn] at es
          rw [es, run_bind, run_rt, run_bind, run_opt, ev]
          refine ⟨ways, rfl, ?_⟩
          rw [run_bind]
          refine putG_wp (by omega) ?_
          rw [run_rt, run_rt]
          have hfree : h ∈ freeL r now := mem_free.mpr ⟨h0, hh1, c, by cases e : heldB r.2 now h with | true => exact absurd e ch | false => rfl⟩
          refine ⟨fun k => ?_, put_nd p2, fun p hp => ?_, Nat.le_trans putM_len (by omega)⟩
          · rw [M.valM_put, tk, List.filter_append, List.filter_cons_of_pos (by rw [decide_eq_true c]; simpa using ch), List.filter_nil, List.map_append, List.count_append]
            by_cases e : k = (⟨stp now h⟩ : Tp Int)
            · subst e
              rw [if_pos rfl, Option.getD_some, p1]
              show _ = _ + ways * ((_ + [stp now h].count (stp now h) : Nat) : Int)
              rw [List.count_singleton_self, Int.natCast_add, Int.mul_add]
              have : ways * ((1 : Nat) : Int) = ways := by simp
              rw [this]
              omega
            · rw [if_neg e, p1]
              have : [stp now h].count k.l = 0 := List.count_eq_zero.mpr fun z => e (by
                have := List.mem_singleton.mp z
                obtain ⟨kl⟩ := k
                exact congrArg Tp.mk this)
              show _ = _ + ways * ((_ + [stp now h].count k.l : Nat) : Int)
              rw [this]; rfl
          · rcases put_mem hp with z | z
            · obtain ⟨p', hp', e'⟩ := List.mem_map.mp z
              obtain ⟨a, ha, hb⟩ := p3 p' hp'
              exact ⟨a, ha, e' ▸ hb⟩
            · exact ⟨_, hpm, by rw [z]; exact List.mem_map.mpr ⟨h, hfree, rfl⟩⟩
      · rw [if_neg (by simpa using c), run_rt, run_bind, run_if, if_neg (by decide), run_rt, run_rt]
        exact skip (by rw [decide_eq_false c]; rfl)
    · rintro t2 ⟨p1, p2, p3, p4⟩
      rw [List.take_length] at p1
      rw [rng_len] at p4
      rw [run_rt]
      refine ⟨fun k => ?_, p2, p3, by omega⟩
      rw [p1, q1, take_snocN hy, List.map_append, List.sum_append]
      show _ = _ + ((valM here (⟨now⟩ : Tp Int)).getD 0 * ((succs r now).count k.l : Int) + 0)
      rw [Int.add_zero, ev]
      rfl
  · rintro there ⟨q1, q2, q3, _⟩
    rw [List.take_length] at q1
    rw [run_rt]
    refine q there ⟨fun k => ?_, q2, fun p hp => ?_⟩
    · rw [q1, perm_sum (hys.map _), List.map_map, count_fm, ← cnt_sum (f := fun a => ((succs r a).count k.l : Int)) R.nd R.keys, List.map_map]
      congr 1
      refine List.map_congr_left fun p hp => ?_
      show (valM here p.1).getD 0 * _ = (L.count p.1.l : Int) * _
      rw [R.val]
    · obtain ⟨a, ha, hb⟩ := q3 p hp
      exact List.mem_flatMap.mpr ⟨_, R.mem a ha, hb⟩
theorem counted_wp {Φ : Int × Int → Prop} (hr : RcL r) (q1 : ∀ o, (Mt r r.1.sum.toNat : Int) ≤ 5000 → o = ((Lay r r.1.sum.toNat).count r.1 : Int) → Φ ((Mt r r.1.sum.toNat : Int), o)) (q2 : ∀ lm o : Int, 5000 < lm → 5000 < (Mt r r.1.sum.toNat : Int) → Φ (lm, o)) : (m_law_counted r).run Φ := by
  have h8 := hr.ct.len
  have hs0 := sum_nn hr.ct.nn
  have hs := hr.ct.sum
  unfold m_law_counted
  obtain ⟨z1, z2⟩ := repZ (n := r.1.length) (by omega)
  rw [run_guard]
  refine ⟨z1, ?_⟩
  rw [z2, run_bind, run_rt, run_bind, run_rt, run_guard, run_bind]
  refine ⟨⟨by decide, by decide, by omega, by omega⟩, ?_⟩
  refine forL_wp (fun i (p : Dc (Tp Int) Int × Int) => (p.2 ≤ 5000 ∧ p.2 = (Mt r i : Int) ∧ Rep p.1 (Lay r i)) ∨ (5000 < p.2 ∧ ∃ g, g ≤ i ∧ p.2 = (Mt r g : Int))) (.inl ⟨by show (1 : Int) ≤ 5000; decide, rfl, rep0⟩) ?_ ?_
  · rintro i y ⟨here, many⟩ hy hI
    have hi := (List.getElem?_eq_some_iff.mp hy).1
    rw [rng_len] at hi
    have hl1 : 1 ≤ r.1.length := by
      cases e : r.1 with
      | nil => rw [e] at hi; simp at hi
      | cons a l => simp
    dsimp only at hI
    unfold m_law_counted_L1
    rw [run_bind, run_if]
    rcases hI with ⟨c, em, R⟩ | ⟨c, g, hg, em⟩
    · rw [if_pos (decide_eq_true (by omega)), run_bind]
      have hk : here.length ≤ 5001 := by
        have := R.len
        have := dd_Mt (r := r) i
        omega
      refine lay_wp hr hl1 R (fun x hx => (lay_ok hr i x hx).1) hk fun there R2 => ?_
      rw [← lay_succ] at R2
      simp only [run_bind, run_rt]
      have el := R2.len
      have eM : Mt r (i + 1) = Mt r i + (dd (Lay r (i + 1))).length := rfl
      by_cases c2 : many + (there.length : Int) ≤ 5000
      · exact .inl ⟨c2, by omega, R2⟩
      · exact .inr ⟨by omega, i + 1, Nat.le_refl _, by omega⟩
    · rw [if_neg (by simpa using (show (5001 : Int) ≤ many by omega))]
      simp only [run_rt]
      exact .inr ⟨c, g, by omega, em⟩
  · rintro ⟨here, many⟩ hI
    rw [rng_len, Int.sub_zero] at hI
    dsimp only at hI ⊢
    rw [run_bind, run_if]
    rcases hI with ⟨c, em, R⟩ | ⟨c, g, hg, em⟩
    · have allc : ∀ p ∈ here, p.1.l = r.1 := fun p hp => by
        obtain ⟨a1, a2, a3⟩ := lay_ok hr _ _ (R.mem p hp)
        exact eq_of_sum a1 (fun x x0 x1 => (a2 x x0 (by omega)).2) (by omega)
      have hv := R.val (⟨r.1⟩ : Tp Int)
      match e : here, R, allc, hv with
      | [], R, _, hv =>
        rw [if_neg (by simp [valM]), run_rt, run_rt]
        subst em
        exact q1 _ c (by rw [← hv]; rfl)
      | [p], R, allc, hv =>
        have ek : p.1 = (⟨r.1⟩ : Tp Int) := by
          have := allc p List.mem_cons_self
          obtain ⟨⟨pl⟩, pv⟩ := p
          exact congrArg Tp.mk this
        have ev : valM [p] (⟨r.1⟩ : Tp Int) = some p.2 := by
          obtain ⟨pk, pv⟩ := p
          rw [valM_cons, if_pos ek]
        rw [if_pos (by rw [ev]; rfl), run_rt, run_rt]
        rw [ev] at hv
        subst em
        refine q1 _ c ?_
        rw [← hv]
        simp
      | p :: p' :: l, R, allc, hv =>
        exfalso
        have := R.nd
        rw [List.map_cons, List.map_cons, List.nodup_cons] at this
        refine this.1 ?_
        rw [allc p List.mem_cons_self, allc p' (List.mem_cons_of_mem _ List.mem_cons_self)]
        exact List.mem_cons_self
    · have := Mt_mono (r := r) hg
      split
      · rw [run_rt, run_rt]
        exact q2 _ _ c (by omega)
      · rw [run_rt, run_rt]
        exact q2 _ _ c (by omega)
/-! ### asked -/
def limK (kind limit : Int) : Int := if kind = 0 then 2000 else limit
theorem asked_cuts {kind limit : Int} {Φ : Option Int → Prop} (hr : RcL r) (hb : limit ≤ 5000) (q : Φ (if (Mt r r.1.sum.toNat : Int) ≤ limK kind limit then some (Mt r r.1.sum.toNat : Int) else none)) : (m_law_cuts r kind limit).run Φ := by
  have main : ∀ lim : Int, lim ≤ 5000 → lim = limK kind limit → ∀ Ψ : Ex (Option Int) → Prop, (∀ o, Ψ (.ok o) ↔ Φ o) → (Ψ (.er ⟨1, .none⟩) ↔ Φ none) → (W.exm (m_how_many_cuts r lim) (fun t2 => W.bind (W.ret (some t2)) fun found_ => W.ret (Ex.ok found_)) (fun er => W.ret (Ex.er er))).run Ψ := by
    intro lim hl el Ψ h1 h2
    rw [exm_run2]
    refine cuts_x hr hl ?_
    rw [el]
    by_cases c : (Mt r r.1.sum.toNat : Int) ≤ limK kind limit
    · rw [if_pos c] at q ⊢
      exact (h1 _).mpr q
    · rw [if_neg c] at q ⊢
      exact h2.mpr q
  unfold m_law_cuts
  rw [run_bind, run_rt, run_bind, exm_run2, run_if]
  by_cases c : kind = 0
  · rw [if_pos (decide_eq_true c)]
    refine main 2000 (by decide) (by unfold limK; rw [if_pos c]) _ (fun o => Iff.rfl) ?_
    show (W.guard (sub_TooMany 1 = true) _).run _ ↔ _
    rw [run_guard, run_bind, run_rt, run_rt]
    exact ⟨fun z => z.2, fun z => ⟨rfl, z⟩⟩
  · rw [if_neg (by simpa using c), run_if]
    have e2 : limit = limK kind limit := by unfold limK; rw [if_neg c]
    split
    · refine main limit hb e2 _ (fun o => Iff.rfl) ?_
      show (W.guard (sub_TooMany 1 = true) _).run _ ↔ _
      rw [run_guard, run_bind, run_rt, run_rt]
      exact ⟨fun z => z.2, fun z => ⟨rfl, z⟩⟩
    · refine main limit hb e2 _ (fun o => Iff.rfl) ?_
      show (W.guard (sub_TooMany 1 = true) _).run _ ↔ _
      rw [run_guard, run_bind, run_rt, run_rt]
      exact ⟨fun z => z.2, fun z => ⟨rfl, z⟩⟩
theorem asked_orders {kind limit : Int} {Φ : Option Int → Prop} (hr : RcL r) (hb : limit ≤ 5000) (q : Φ (if (Mt r r.1.sum.toNat : Int) ≤ limK kind limit then some ((Lay r r.1.sum.toNat).count r.1 : Int) else none)) : (m_law_orders r kind limit).run Φ := by
  have main : ∀ lim : Int, lim ≤ 5000 → lim = limK kind limit → ∀ Ψ : Ex (Option Int) → Prop, (∀ o, Ψ (.ok o) ↔ Φ o) → (Ψ (.er ⟨1, .none⟩) ↔ Φ none) → (W.exm (m_how_many_orders r lim) (fun t2 => W.bind (W.ret (some t2)) fun found_ => W.ret (Ex.ok found_)) (fun er => W.ret (Ex.er er))).run Ψ := by
    intro lim hl el Ψ h1 h2
    rw [exm_run2]
    refine orders_x hr hl ?_
    rw [el]
    by_cases c : (Mt r r.1.sum.toNat : Int) ≤ limK kind limit
    · rw [if_pos c] at q ⊢
      exact (h1 _).mpr q
    · rw [if_neg c] at q ⊢
      exact h2.mpr q
  unfold m_law_orders
  rw [run_bind, run_rt, run_bind, exm_run2, run_if]
  by_cases c : kind = 0
  · rw [if_pos (decide_eq_true c)]
    refine main 2000 (by decide) (by unfold limK; rw [if_pos c]) _ (fun o => Iff.rfl) ?_
    show (W.guard (sub_TooMany 1 = true) _).run _ ↔ _
    rw [run_guard, run_bind, run_rt, run_rt]
    exact ⟨fun z => z.2, fun z => ⟨rfl, z⟩⟩
  · rw [if_neg (by simpa using c), run_if]
    have e2 : limit = limK kind limit := by unfold limK; rw [if_neg c]
    split
    · refine main limit hb e2 _ (fun o => Iff.rfl) ?_
      show (W.guard (sub_TooMany 1 = true) _).run _ ↔ _
      rw [run_guard, run_bind, run_rt, run_rt]
      exact ⟨fun z => z.2, fun z => ⟨rfl, z⟩⟩
    · refine main limit hb e2 _ (fun o => Iff.rfl) ?_
      show (W.guard (sub_TooMany 1 = true) _).run _ ↔ _
      rw [run_guard, run_bind, run_rt, run_rt]
      exact ⟨fun z => z.2, fun z => ⟨rfl, z⟩⟩
theorem is_wp {o : Option Int} {Φ : Bool → Prop} (q : Φ true) : (m_law_is o o).run Φ := by
  unfold m_law_is
  rw [run_guard, run_if]
  refine ⟨nn, ?_⟩
  cases o with
  | none =>
    rw [if_pos (by rfl), run_guard, run_rt]
    exact ⟨nn, q⟩
  | some x =>
    rw [if_neg (by simp), run_bind, run_if, if_pos (by rfl), run_bind, run_if, if_pos (by rfl), run_guard, run_rt, run_rt, run_rt, eqD_self]
    exact ⟨⟨okD_pl _, okD_pl _⟩, q⟩
end
/-! ### counts of about two thousand cuts -/
structure WdOk (cs : List Int) : Prop where
  two : 2 ≤ cs.length
  len : cs.length ≤ 8
  pos : ∀ c ∈ cs, 0 < c
  sum : cs.sum ≤ 300
theorem WdOk.ct {cs : List Int} (h : WdOk cs) : CtOk cs := ⟨h.len, fun c hc => by have := h.pos c hc; omega, h.sum⟩
theorem WdOk.perm {a b : List Int} (h : WdOk a) (p : b.Perm a) : WdOk b := ⟨by rw [p.length_eq]; exact h.two, by rw [p.length_eq]; exact h.len, fun c hc => h.pos c (p.mem_iff.mp hc), by rw [perm_sum p]; exact h.sum⟩
theorem wides : ∀ cs ∈ ([([(39 : Int), (49 : Int)] : (List Int)), ([(28 : Int), (68 : Int)] : (List Int)), ([(24 : Int), (79 : Int)] : (List Int)), ([(4 : Int), (19 : Int), (19 : Int)] : (List Int)), ([(1 : Int), (9 : Int), (9 : Int), (9 : Int)] : (List Int)), ([(2 : Int), (22 : Int), (28 : Int)] : (List Int)), ([(1 : Int), (1 : Int), (4 : Int), (9 : Int), (9 : Int)] : (List Int)), ([(9 : Int), (199 : Int)] : (List Int)), ([(1 : Int), (1 : Int), (1 : Int), (1 : Int), (4 : Int), (4 : Int), (4 : Int)] : (List Int)), ([(2 : Int), (2 : Int), (2 : Int), (2 : Int), (4 : Int), (4 : Int)] : (List Int))] : (List (List Int))), 2 ≤ cs.length ∧ cs.length ≤ 8 ∧ (∀ c ∈ cs, 0 < c) ∧ cs.sum ≤ 300 := by decide +kernel
theorem wide_wp {B : Nat} {s : Bag} {Φ : (List Int × List NT4) × Bag → Prop} (hs : BagOk B s) (hB : B < 2 ^ 37) (k : ∀ r s', RcL r → BagOk (B + 100) s' → Φ (r, s')) : (m_law_wide s).run Φ := by
  unfold m_law_wide
  rw [run_bind2]
  refine draw_wp hs (by omega) (by decide) (by decide) fun size s1 a0 a1 hs1 => ?_
  dsimp only
  rw [run_bind, run_rt, run_bind2]
  refine draw_wp hs1 (by omega) (by decide) (by decide) fun many s2 m0 m1 hs2 => ?_
  dsimp only
  rw [run_bind, run_rt, run_bind, run_opt]
  obtain ⟨cs, hcs, ecs⟩ := atI_some (xs := ([([(39 : Int), (49 : Int)] : (List Int)), ([(28 : Int), (68 : Int)] : (List Int)), ([(24 : Int), (79 : Int)] : (List Int)), ([(4 : Int), (19 : Int), (19 : Int)] : (List Int)), ([(1 : Int), (9 : Int), (9 : Int), (9 : Int)] : (List Int)), ([(2 : Int), (22 : Int), (28 : Int)] : (List Int)), ([(1 : Int), (1 : Int), (4 : Int), (9 : Int), (9 : Int)] : (List Int)), ([(9 : Int), (199 : Int)] : (List Int)), ([(1 : Int), (1 : Int), (1 : Int), (1 : Int), (4 : Int), (4 : Int), (4 : Int)] : (List Int)), ([(2 : Int), (2 : Int), (2 : Int), (2 : Int), (4 : Int), (4 : Int)] : (List Int))] : (List (List Int)))) (i := size) a0 (by show size < 10; exact a1)
  refine ⟨cs, ecs, ?_⟩
  obtain ⟨w1, w2, w3, w4⟩ := wides cs hcs
  rw [run_bind, run_rt, run_bind2]
  refine draw_wp hs2 (by omega) (by decide) (by decide) fun n s3 n0 n1 hs3 => ?_
  dsimp only
  rw [run_guard, run_bind]
  refine ⟨⟨by decide, by decide, by omega, by omega⟩, ?_⟩
  refine forL_wp (fun i (p : Bag × List Int) => BagOk (B + 3 + i) p.1 ∧ WdOk p.2) ⟨hs3, ⟨w1, w2, w3, w4⟩⟩ ?_ ?_
  · rintro i y ⟨s, cs⟩ hy ⟨h1, h2⟩
    dsimp only at h1 h2
    have hi := (List.getElem?_eq_some_iff.mp hy).1
    rw [rng_len] at hi
    have c2 := h2.two
    have c8 := h2.len
    dsimp only
    unfold m_law_wide_L1
    rw [run_bind2]
    refine draw_wp h1 (by omega) (by omega) (by omega) fun at_ s4 t0 t1 hs4 => ?_
    dsimp only
    rw [run_bind]
    obtain ⟨j, rfl⟩ : ∃ j : Nat, at_ = j := ⟨at_.toNat, by omega⟩
    refine popI_wp (by omega) (by omega) ?_
    dsimp only
    rw [run_bind]
    refine apd_wp (by rw [List.length_eraseIdx]; split <;> omega) ?_
    rw [run_rt]
    refine ⟨hs4.mo (by omega), h2.perm ?_⟩
    exact (List.perm_append_comm).trans (erase_perm _ _ _ (List.getElem?_eq_getElem (by omega)))
  · rintro ⟨s, cs⟩ ⟨h1, h2⟩
    rw [rng_len] at h1
    dsimp only at h1 h2 ⊢
    unfold m_law_wide_R1
    rw [run_guard, run_bind]
    refine ⟨⟨by decide, by decide, by omega, by omega⟩, ?_⟩
    refine compSG_wp (fun i s acc => BagOk (B + 20 + 4 * i) s ∧ ∃ ts : List NT4, acc = ts.map some ∧ ts.length = i ∧ ∀ t ∈ ts, NtOk cs t) (small (by rw [rng_len]; omega)) ⟨h1.mo (by omega), [], rfl, rfl, by simp⟩ ?_ ?_
    · rintro i y s acc hy ⟨g1, ts, g2, g3, g4⟩
      have hi := (List.getElem?_eq_some_iff.mp hy).1
      rw [rng_len] at hi
      rw [run_bind2]
      refine note_some_wp g1 (by omega) h2.ct h2.two h2.pos fun t s5 ht hs5 => ?_
      dsimp only
      rw [run_rt]
      refine ⟨hs5.mo (by omega), ts ++ [t], by rw [g2]; simp, by simp [g3], fun u hu => ?_⟩
      rcases List.mem_append.mp hu with z | z
      · exact g4 u z
      · rw [List.mem_singleton.mp z]; exact ht
    · rintro s acc ⟨g1, ts, g2, g3, g4⟩
      rw [rng_len] at g1 g3
      dsimp only
      rw [run_bind, run_rt, run_bind, run_opt]
      refine ⟨ts, ?_, ?_⟩
      · rw [g2]
        clear g2 g3 g4
        induction ts with
        | nil => rfl
        | cons t ts ih =>
          rw [List.map_cons]
          unfold getAll
          rw [ih]
      · rw [run_rt]
        exact k _ _ ⟨h2.ct, g4, by dsimp only; omega⟩ (g1.mo (by omega))
theorem law_true {ns : List Int} (hl : ns.length ≤ 63) : (m_law ns).run (fun r => r = true) := by
  unfold m_law
  rw [run_bind]
  refine bag_wp fun b0 hb0 => ?_
  rw [run_bind, run_rt, run_bind2]
  refine draw_wp hb0 (by decide) (by decide) (by decide) fun size b1 s0 s1 hb1 => ?_
  dsimp only
  rw [run_bind, run_rt, run_bind2]
  refine draw_wp hb1 (by decide) (by decide) (by decide) fun kind b2 k0 k1 hb2 => ?_
  dsimp only
  rw [run_bind, run_rt, run_bind2]
  refine draw_wp hb2 (by decide) (by decide) (by decide) fun bound b3 bo0 bo1 hb3 => ?_
  dsimp only
  rw [run_bind, run_rt, run_bind2]
  refine draw_wp hb3 (by decide) (by decide) (by decide) fun limit b4 l0 l1 hb4 => ?_
  dsimp only
  rw [run_bind, run_rt, run_bind, run_if]
  have main : ∀ (r : List Int × List NT4) (b5 : Bag), RcL r → (W.bind (W.ret r) fun record_ => W.bind (m_law_counted record_) fun t33 => W.bind (W.ret t33) fun u => (fun many_ orders_ => W.bind (W.ite (decide (bound > (0 : Int))) (W.bind (W.opt (atI ([(2000 : Int), (many_ - (1 : Int)), many_, (many_ + (1 : Int))] : (List Int)) (bound - (1 : Int)))) fun t43 => W.bind (W.ret (if (if t43 < (5000 : Int) then t43 else (5000 : Int)) > (0 : Int) then (if t43 < (5000 : Int) then t43 else (5000 : Int)) else (0 : Int))) fun limit_ => W.ret (limit_)) (W.ret (limit))) (fun s => m_law_R2 kind record_ many_ orders_ s)) u.1 u.2 : W Bool).run (fun r => r = true) := by
    intro r b5 hr
    rw [run_bind, run_rt, run_bind]
    -- behind the counting: any limit up to five thousand
    have fin : ∀ (many orders lim : Int), lim ≤ 5000 → ((Mt r r.1.sum.toNat : Int) ≤ 5000 ∧ many = (Mt r r.1.sum.toNat : Int) ∧ orders = ((Lay r r.1.sum.toNat).count r.1 : Int) ∨ 5000 < many ∧ 5000 < (Mt r r.1.sum.toNat : Int)) → (m_law_R2 kind r many orders lim).run (fun r => r = true) := by
      intro many orders lim hlim hm
      have hk : limK kind lim ≤ 5000 := by unfold limK; split <;> omega
      unfold m_law_R2 m_law_copy
      rw [run_bind, run_rt, run_bind, run_rt, run_bind, run_rt, run_bind, run_opt]
      refine ⟨limK kind lim, ?_, ?_⟩
      · unfold limK
        by_cases c : kind = 0
        · rw [decide_eq_true c, if_pos c]; rfl
        · rw [decide_eq_false c, if_neg c]; rfl
      have tail : ∀ d0 d1 : Option Int, d0 = (if (Mt r r.1.sum.toNat : Int) ≤ limK kind lim then some (Mt r r.1.sum.toNat : Int) else none) → d1 = (if (Mt r r.1.sum.toNat : Int) ≤ limK kind lim then some ((Lay r r.1.sum.toNat).count r.1 : Int) else none) → (m_law_R1 kind lim r (r.1, r.2) [d0, d1]).run (fun r => r = true) := by
        intro d0 d1 e0 e1
        unfold m_law_R1
        rw [run_bind]
        refine asked_cuts (r := (r.1, r.2)) hr hlim ?_
        rw [run_bind, run_opt]
        refine ⟨d0, at_head, ?_⟩
        rw [← e0, run_bind]
        refine is_wp ?_
        rw [run_bind, run_if, if_neg (by decide), run_bind]
        refine asked_orders (r := (r.1, r.2)) hr hlim ?_
        rw [run_bind, run_opt]
        refine ⟨d1, rfl, ?_⟩
        rw [← e1, run_bind]
        refine is_wp ?_
        rw [run_rt, run_if, if_neg (by decide), run_guard, run_rt]
        refine ⟨⟨okD_pl _, okD_pl _⟩, ?_⟩
        exact eqD_self _
      rw [run_bind, run_if]
      rcases hm with ⟨m1, rfl, rfl⟩ | ⟨m1, m2⟩
      · by_cases c : (Mt r r.1.sum.toNat : Int) ≤ limK kind lim
        · rw [if_pos (decide_eq_true c), run_bind, run_rt, run_rt]
          exact tail _ _ (by rw [if_pos c]) (by rw [if_pos c])
        · rw [if_neg (by simpa using c), run_rt]
          exact tail _ _ (by rw [if_neg c]) (by rw [if_neg c])
      · rw [if_neg (by simpa using (show limK kind lim < many by omega)), run_rt]
        exact tail _ _ (by rw [if_neg (by omega)]) (by rw [if_neg (by omega)])
    have lims : ∀ (many orders : Int), ((Mt r r.1.sum.toNat : Int) ≤ 5000 ∧ many = (Mt r r.1.sum.toNat : Int) ∧ orders = ((Lay r r.1.sum.toNat).count r.1 : Int) ∨ 5000 < many ∧ 5000 < (Mt r r.1.sum.toNat : Int)) → (W.bind (W.ite (decide (bound > (0 : Int))) (W.bind (W.opt (atI ([(2000 : Int), (many - (1 : Int)), many, (many + (1 : Int))] : (List Int)) (bound - (1 : Int)))) fun t43 => W.bind (W.ret (if (if t43 < (5000 : Int) then t43 else (5000 : Int)) > (0 : Int) then (if t43 < (5000 : Int) then t43 else (5000 : Int)) else (0 : Int))) fun limit_ => W.ret (limit_)) (W.ret (limit))) (fun s => m_law_R2 kind r many orders s) : W Bool).run (fun r => r = true) := by
      intro many orders hm
      rw [run_bind, run_if]
      by_cases c : bound > 0
      · rw [if_pos (decide_eq_true c), run_bind, run_opt]
        obtain ⟨x, _, ex⟩ := atI_some (xs := ([(2000 : Int), (many - (1 : Int)), many, (many + (1 : Int))] : (List Int))) (i := bound - 1) (by omega) (by show bound - 1 < (4 : Int); omega)
        refine ⟨x, ex, ?_⟩
        rw [run_bind, run_rt, run_rt]
        exact fin many orders _ (by split <;> split <;> omega) hm
      · rw [if_neg (by simpa using c), run_rt]
        exact fin many orders limit (by omega) hm
    refine counted_wp hr (fun o c eo => ?_) (fun lm o c c2 => ?_)
    · rw [run_bind, run_rt]
      exact lims _ _ (.inl ⟨c, rfl, eo⟩)
    · rw [run_bind, run_rt]
      exact lims _ _ (.inr ⟨c, c2⟩)
  by_cases c : size > 4
  · rw [if_pos (decide_eq_true c), run_bind2]
    refine wide_wp hb4 (by decide) fun r b5 hr _ => ?_
    rw [run_rt]
    exact main r b5 hr
  · rw [if_neg (by simpa using c), run_bind2]
    refine record_wp hb4 (by decide) (by split <;> simp) fun r b5 hr _ => ?_
    rw [run_rt]
    exact main r b5 ⟨hr.ct, hr.nt, by have := hr.len; omega⟩
end M

namespace M
open PySem L2 Z
section
def topS (i : Nat) : Stmt := PySem.Challenge.pw_fewnotes_k41_cuts_and_orders_counted.main.body.getD i (.Pass ⟨0, 0, 0, 0⟩)
variable {P : Program} {w : World} {K : PySem.W.Frag} {mg : Str → Option Value} {base : Heap} {cl : Nat → Addr}
def sp_is_touch (K : PySem.W.Frag) (cl : Nat → Addr) : Sp := fun vs H Q E => ∃ (amb : Grp) (Ho : Hp) (v0 : V) (x0 : (List Int)) (v1 : V) (x1 : Int) (v2 : V) (x2 : Int), vs = [v0, v1, v2] ∧ Zs amb H Ho ∧ LV K amb Ho v0 x0 ∧ Z.D K Ho v1 x1 ∧ Z.D K Ho v2 x2 ∧ (m_is_touch x0 x1 x2).run fun r => ∀ v H' Ho', Same Ho Ho' → Zs amb H' Ho' → Z.D K Ho' v r → Q v H'
abbrev s_is_touch : Stmt := topS 5
theorem sc_is_touch : FnScope ["counts", "hand", "k"] ["counts", "hand", "k"] (defScope s_is_touch) := ⟨rfl, rfl, rfl, by decide +kernel, rfl, by decide +kernel, by decide +kernel⟩
theorem ok_is_touch {f : Addr} {fd : FuncData} (F : Fun K "is_touch" "is_touch" s_is_touch f fd) (m_len : mg "len" = none) :
    FnOk P w K mg base CX0 1 f fd ["counts", "hand", "k"] (sp_is_touch K cl) := by
  refine F.ok sc_is_touch (fun vs H Q E h => ?_) (fun cdv A outer s H vs Q E hr h => ?_)
  · obtain ⟨amb, Ho, v_counts_, counts_, v_hand_, hand_, v_k_, k_, rfl, _⟩ := h
    rfl
  · obtain ⟨amb, Ho, v_counts_, counts_, v_hand_, hand_, v_k_, k_, rfl, z, d_counts_, d_hand_, d_k_, hw⟩ := h
    refine ⟨_, pss_cons (ps_ret (pe_and (pe_cmpR (op_le) (pe_int) (pv 1) (nomark _)) (pe_and (pe_cmpR (op_lt) (pv 1) (pe_callB (zlen (K := K) rfl) (by rfl) m_len (by decide +kernel) (pa_cons (pv 0) (pa_nil))) (nomark _)) (pe_and (pe_cmpR (op_le) (pe_int) (pv 2) (nomark _)) (pe_one (pe_cmpR (op_lt) (pv 2) (pe_ix (zix_list (K := K) rfl) (pv 0) (pv 1) (fun _ _ => rfl)) (nomark _))))))) (pss_nil), ?_⟩
    obtain rfl := d_int d_hand_
    obtain rfl := d_int d_k_
    refine y_ret ?_
    refine y_andV ?_
    refine y_op ?_
    refine y_c ?_
    refine y_var rfl ?_
    refine y_i0 ?_
    refine ⟨_, rfl, ?_⟩
    refine w_andVJ hw (fun (s : Bool) (v : V) (H2 : Hp) => ∃ (Ho2 : Hp), Same Ho Ho2 ∧ Zs amb H2 Ho2 ∧ v = V.bl s) (fun hb hw => ?_) (fun hb hw => ?_) ?_
    · refine y_andV ?_
      refine y_op ?_
      refine y_var rfl ?_
      refine y_cb ?_
      refine y_cons ?_
      refine y_var rfl ?_
      refine y_nil ?_
      refine y_len (LV.sub d_counts_ mgE) z ?_
      refine y_i0 ?_
      refine ⟨_, rfl, ?_⟩
      refine w_andVJ hw (fun (s : Bool) (v : V) (H2 : Hp) => ∃ (Ho2 : Hp), Same Ho Ho2 ∧ Zs amb H2 Ho2 ∧ v = V.bl s) (fun hb hw => ?_) (fun hb hw => ?_) ?_
      · refine y_andV ?_
        refine y_op ?_
        refine y_c ?_
        refine y_var rfl ?_
        refine y_i0 ?_
        refine ⟨_, rfl, ?_⟩
        refine w_andVJ hw (fun (s : Bool) (v : V) (H2 : Hp) => ∃ (Ho2 : Hp), Same Ho Ho2 ∧ Zs amb H2 Ho2 ∧ v = V.bl s) (fun hb hw => ?_) (fun hb hw => ?_) ?_
        · refine y_op ?_
          refine y_var rfl ?_
          refine y_op ?_
          refine y_var rfl ?_
          refine y_var rfl ?_
          refine y_ixL (LV.sub d_counts_ mgE) z hw (fun t1 w d2 hw => ?_)
          first | obtain rfl := d_int d2 | cases d_int d2
          refine y_i0 ?_
          exact (run_ret hw) _ _ ⟨_, (Same.refl _), z, rfl⟩
        · exact (run_ret hw) _ _ ⟨_, (Same.refl _), z, rfl⟩
        rintro t3 v H ⟨Ho, e, z, rfl⟩ hw
        replace d_counts_ := LV.mo d_counts_ e
        have es6 := (Same.refl _).trans e
        exact (run_ret hw) _ _ ⟨_, es6, z, rfl⟩
      · exact (run_ret hw) _ _ ⟨_, (Same.refl _), z, rfl⟩
      rintro t7 v H ⟨Ho, e, z, rfl⟩ hw
      replace d_counts_ := LV.mo d_counts_ e
      have es10 := (Same.refl _).trans e
      exact (run_ret hw) _ _ ⟨_, es10, z, rfl⟩
    · exact (run_ret hw) _ _ ⟨_, (Same.refl _), z, rfl⟩
    rintro t11 v H ⟨Ho, e, z, rfl⟩ hw
    replace d_counts_ := LV.mo d_counts_ e
    have es14 := (Same.refl _).trans e
    exact (run_ret hw) _ _ _ es14 z (Dq.bl _)
def sp_need_record (K : PySem.W.Frag) (cl : Nat → Addr) : Sp := fun vs H Q E => ∃ (amb : Grp) (Ho : Hp) (v0 : V) (x0 : ((List Int) × (List (P4 Int Int Int Int)))), vs = [v0] ∧ Zs amb H Ho ∧ Z.D K Ho v0 x0 ∧ (m_need_record x0).run (ExP (fun r => ∀ v H' Ho', Same Ho Ho' → Zs amb H' Ho' → Z.D K Ho' v r → Q v H') fun e => ∀ H' Ho', Same Ho Ho' → Zs amb H' Ho' → E (.ref (cl e.cls)) none H')
abbrev s_need_record : Stmt := topS 6
theorem sc_need_record : FnScope ["record", "counts", "some", "hand", "k", "other", "m"] ["record"] (defScope s_need_record) := ⟨rfl, rfl, rfl, by decide +kernel, rfl, by decide +kernel, by decide +kernel⟩
theorem ok_need_record {f : Addr} {fd : FuncData} (F : Fun K "need_record" "need_record" s_need_record f fd) {f_is_touch : Addr} {fd_is_touch : FuncData} (c_is_touch : Cal P w K mg base CX0 "is_touch" ["counts", "hand", "k"] 1 (sp_is_touch K cl) f_is_touch fd_is_touch) (xx_NoNote : PySem.W.excIn K (cl 0) [.type "ValueError", .type "Exception", .type "BaseException", .type "object"] "ValueError.__new__" = true) (gc_NoNote : mg "NoNote" = some (.ref (cl 0))) (kk_NoNote : PySem.W.keepIn K (.ref (cl 0)) = true) (bb_NoNote : PySem.W.subIn K (.ref (cl 0)) (.type "BaseException") = some true) (tt_NoNote : PySem.W.typeIn K (.ref (cl 0)) = some (.type "type")) :
    FnOk P w K mg base (L2.CX P w) 2 f fd ["record"] (sp_need_record K cl) := by
  refine F.okX sc_need_record (fun vs H Q E h => ?_) (fun cdv A outer s H vs Q E hr h => ?_)
  · obtain ⟨amb, Ho, v_record_, record_, rfl, _⟩ := h
    rfl
  · obtain ⟨amb, Ho, v_record_, record_, rfl, z, d_record_, hw⟩ := h
    refine ⟨_, pss_cons (ps_asg (pv 0) (zpg_tup (K := K) (n := 2) rfl rfl (pgs_cons (pg_name (i := 1) sc_need_record.nd rfl (Or.inl rfl)) (pgs_cons (pg_name (i := 2) sc_need_record.nd rfl (Or.inl rfl)) (pgs_nil))))) (pss_cons (ps_for (passes_of rfl) rfl (zpi_list (K := K) rfl (pv 2)) (zpg_tup (K := K) (n := 4) rfl rfl (pgs_cons (pg_name (i := 3) sc_need_record.nd rfl (Or.inl rfl)) (pgs_cons (pg_name (i := 4) sc_need_record.nd rfl (Or.inl rfl)) (pgs_cons (pg_name (i := 5) sc_need_record.nd rfl (Or.inl rfl)) (pgs_cons (pg_name (i := 6) sc_need_record.nd rfl (Or.inl rfl)) (pgs_nil)))))) (pss_cons (ps_if (PW.pt (pw_or (pt_cmpR (op_eq) (pv 3) (pv 5) (nomark _)) (pw_or (pt_not (pt_val (pe_call c_is_touch.ok (hr.mono (by decide)) (by rfl) c_is_touch.g c_is_touch.kp c_is_touch.b .nil pass0 (pa_cons (pv 1) (pa_cons (pv 3) (pa_cons (pv 4) (pa_nil))))))) (pw_or1 (pt_not (pt_val (pe_call c_is_touch.ok (hr.mono (by decide)) (by rfl) c_is_touch.g c_is_touch.kp c_is_touch.b .nil pass0 (pa_cons (pv 1) (pa_cons (pv 5) (pa_cons (pv 6) (pa_nil))))))))))) (pss_cons (zps_raise (K := K) rfl rfl (takes_of rfl rfl rfl rfl) xx_NoNote gc_NoNote kk_NoNote bb_NoNote tt_NoNote (by rfl)) (pss_nil)) (pss_nil)) (pss_nil))) (pss_nil)), ?_⟩
    refine y_asgG ?_
    refine y_var rfl ?_
    refine l_u2 hw d_record_ (fun u1 d2 hw => ?_)
    obtain ⟨counts_, some_⟩ := u1
    refine c_gt2 (fun v_counts_ v_some_ => [_, some v_counts_, some v_some_, _, _, _, _]) (fun _ _ => rfl) d2 z (fun v_counts_ v_some_ d_counts_ d_some_ => ?_)
    refine y_for ?_
    refine k_iList ?_
    refine y_var rfl ?_
    refine k_srcL (r0 := ([] : Grp)) (LV.of d_some_) mgN z (fun J T => ?_)
    refine y_forC T hw (fun (s : Unit) (σ : L2.St) (H Ho : Hp) => ∃ (y_hand_ : Option V) (y_k_ : Option V) (y_other_ : Option V) (y_m_ : Option V), σ = [some v_record_, some v_counts_, some v_some_, y_hand_, y_k_, y_other_, y_m_] ∧ Zs amb H Ho) ⟨_, _, _, _, rfl, z⟩ ?_ ?_ ?_ ?_
    · intro s σ H Ho hI
      obtain ⟨y_hand_, y_k_, y_other_, y_m_, rfl, z⟩ := hI
      exact ⟨_, z, mgN⟩
    · intro s σ H Ho H2 Ho2 hI e t
      obtain ⟨y_hand_, y_k_, y_other_, y_m_, rfl, z⟩ := hI
      exact ⟨_, _, _, _, rfl, t _ z⟩
    · intro a x s σ H Ho N B e hI dx hw
      obtain ⟨y_hand_, y_k_, y_other_, y_m_, rfl, z⟩ := hI
      replace d_counts_ := D.mo d_counts_ e
      have es3 := (Same.refl _).trans e
      obtain ⟨hand_, k_, other_, m_⟩ := a
      refine c_gt4 (fun v_hand_ v_k_ v_other_ v_m_ => [some v_record_, some v_counts_, some v_some_, some v_hand_, some v_k_, some v_other_, some v_m_]) (fun _ _ _ _ => rfl) dx z (fun v_hand_ v_k_ v_other_ v_m_ d_hand_ d_k_ d_other_ d_m_ => ?_)
      obtain rfl := d_int d_hand_
      obtain rfl := d_int d_k_
      obtain rfl := d_int d_other_
      obtain rfl := d_int d_m_
      refine y_ifS ?_
      refine y_or ?_
      refine y_test ?_
      refine y_op ?_
      refine y_var rfl ?_
      refine y_var rfl ?_
      refine y_eqi ?_
      refine ⟨_, rfl, ?_⟩
      refine w_orJ hw (fun (s : Bool) (v : Bool) (H2 : Hp) => ∃ (Ho2 : Hp), Same Ho Ho2 ∧ Zs amb H2 Ho2 ∧ v = s) (fun hb hw => ?_) (fun hb hw => ?_) ?_
      · exact (run_ret hw) _ _ ⟨_, (Same.refl _), z, rfl⟩
      · refine y_or ?_
        refine y_not ?_
        refine y_tB ?_
        refine y_call ?_
        refine y_cons ?_
        refine y_var rfl ?_
        refine y_cons ?_
        refine y_var rfl ?_
        refine y_cons ?_
        refine y_var rfl ?_
        refine y_nil ?_
        refine ⟨amb, _, _, _, _, _, _, _, rfl, z, (LV.of d_counts_), (Dq.int _), (Dq.int _), ?_⟩
        refine run_mono3 hw (fun t4 hw v H Ho e z d5 => ?_)
        replace d_counts_ := D.mo d_counts_ e
        have es7 := (Same.refl _).trans e
        first | obtain rfl := d_bool d5 | cases d_bool d5
        refine ⟨_, rfl, ?_⟩
        refine w_orJ hw (fun (s : Bool) (v : Bool) (H2 : Hp) => ∃ (Ho2 : Hp), Same Ho Ho2 ∧ Zs amb H2 Ho2 ∧ v = s) (fun hb hw => ?_) (fun hb hw => ?_) ?_
        · exact (run_ret hw) _ _ ⟨_, (Same.refl _), z, rfl⟩
        · refine y_not ?_
          refine y_tB ?_
          refine y_call ?_
          refine y_cons ?_
          refine y_var rfl ?_
          refine y_cons ?_
          refine y_var rfl ?_
          refine y_cons ?_
          refine y_var rfl ?_
          refine y_nil ?_
          refine ⟨amb, _, _, _, _, _, _, _, rfl, z, (LV.of d_counts_), (Dq.int _), (Dq.int _), ?_⟩
          refine run_mono3 hw (fun t8 hw v H Ho e z d9 => ?_)
          replace d_counts_ := D.mo d_counts_ e
          have es11 := (Same.refl _).trans e
          first | obtain rfl := d_bool d9 | cases d_bool d9
          refine ⟨_, rfl, ?_⟩
          exact (run_ret hw) _ _ ⟨_, es11, z, rfl⟩
        rintro t12 v H ⟨Ho, e, z, rfl⟩ hw
        replace d_counts_ := D.mo d_counts_ e
        have es15 := es7.trans e
        exact (run_ret hw) _ _ ⟨_, es15, z, rfl⟩
      rintro t16 v H ⟨Ho, e, z, rfl⟩ hw
      replace d_counts_ := D.mo d_counts_ e
      have es19 := (Same.refl _).trans e
      refine y_cases hw (fun hb hw => ?_) (fun hb hw => ?_)
      · refine y_raise ?_
        exact exP_er (ctl_rt (run_ret hw)) _ _ (es3.trans es19) z
      · refine y_nxS ?_
        exact ctl_nx (run_ret hw) _ _ _ es19 ⟨_, _, _, _, rfl, z⟩
    intro s σ H Ho e hI hw
    obtain ⟨y_hand_, y_k_, y_other_, y_m_, rfl, z⟩ := hI
    have es20 := (Same.refl _).trans e
    exact (exP_ok (run_ret hw)) _ _ _ es20 z Dq.non
def sp_firsts_of (K : PySem.W.Frag) (cl : Nat → Addr) : Sp := fun vs H Q E => ∃ (amb : Grp) (Ho : Hp) (v0 : V) (x0 : ((List Int) × (List (P4 Int Int Int Int)))), vs = [v0] ∧ Zs amb H Ho ∧ Z.D K Ho v0 x0 ∧ (m_firsts_of x0).run fun r => ∀ v g H' Ho', Same Ho Ho' → Zs (g ++ amb) H' Ho' → OD K Ho' v r g → Q v H'
abbrev s_firsts_of : Stmt := topS 7
theorem sc_firsts_of : FnScope ["record", "found", "hand", "k", "other", "m"] ["record"] (defScope s_firsts_of) := ⟨rfl, rfl, rfl, by decide +kernel, rfl, by decide +kernel, by decide +kernel⟩
theorem ok_firsts_of {f : Addr} {fd : FuncData} (F : Fun K "firsts_of" "firsts_of" s_firsts_of f fd) :
    FnOk P w K mg base CX0 1 f fd ["record"] (sp_firsts_of K cl) := by
  refine F.ok sc_firsts_of (fun vs H Q E h => ?_) (fun cdv A outer s H vs Q E hr h => ?_)
  · obtain ⟨amb, Ho, v_record_, record_, rfl, _⟩ := h
    rfl
  · obtain ⟨amb, Ho, v_record_, record_, rfl, z, d_record_, hw⟩ := h
    refine ⟨_, pss_cons (ps_set (i := 1) sc_firsts_of.nd rfl (Or.inl rfl) (pe_dnewT)) (pss_cons (ps_for PassesOwn.never rfl (zpi_list (K := K) rfl (pe_ix (zix_tup (K := K) rfl) (pv 0) (pe_int) (fun _ _ => rfl))) (zpg_tup (K := K) (n := 4) rfl rfl (pgs_cons (pg_name (i := 2) sc_firsts_of.nd rfl (Or.inl rfl)) (pgs_cons (pg_name (i := 3) sc_firsts_of.nd rfl (Or.inl rfl)) (pgs_cons (pg_name (i := 4) sc_firsts_of.nd rfl (Or.inl rfl)) (pgs_cons (pg_name (i := 5) sc_firsts_of.nd rfl (Or.inl rfl)) (pgs_nil)))))) (pss_cons (ps_expr (pe_bm PySem.F.plainAttrs_list PySem.F.slot_list_append PySem.F.type_list_append mt_append (pe_dsetd (room1 hr) (pv 1) (pe_tup (pa_cons (pv 4) (pa_cons (pv 5) (pa_nil)))) (pe_lst (pa_nil)) ⟨by rfl, by rfl, by rfl, by rfl⟩) (pa_cons (pe_tup (pa_cons (pv 2) (pa_cons (pv 3) (pa_nil)))) (pa_nil)))) (pss_nil))) (pss_cons (ps_ret (pv 1)) (pss_nil))), ?_⟩
    refine l_asg (fun v => [_, some v, _, _, _, _]) (fun _ => rfl) ?_
    refine g_dnewTo (K := K) (α := (Int × Int)) z (fun H v1 g2 z o3 => ?_)
    refine t_o hw z o3 (fun found_ v_found_ g_found_ z d_found_ hw => ?_)
    refine y_for ?_
    refine k_iList ?_
    refine y_op ?_
    refine y_var rfl ?_
    refine y_c ?_
    refine y_ixT (y := record_.2) d_record_ z ⟨_, rfl, rfl⟩ (fun w d4 => ?_)
    refine k_srcL (r0 := ([] : Grp)) (LV.of d4) mgN z (fun J T => ?_)
    refine y_forL T hw (fun (s : (Dc (Int × Int) (List (Int × Int)))) (σ : L2.St) (H Ho : Hp) => ∃ (g_found_ : Grp) (y_hand_ : Option V) (y_k_ : Option V) (y_other_ : Option V) (y_m_ : Option V), σ = [some v_record_, some v_found_, y_hand_, y_k_, y_other_, y_m_] ∧ Zs (g_found_ ++ amb) H Ho ∧ OT K Ho v_found_ s g_found_) ⟨_, _, _, _, _, rfl, z, d_found_⟩ ?_ ?_ ?_ ?_
    · intro s σ H Ho hI
      obtain ⟨g_found_, y_hand_, y_k_, y_other_, y_m_, rfl, z, d_found_⟩ := hI
      exact ⟨_, z, mgN⟩
    · intro s σ H Ho H2 Ho2 hI e t
      obtain ⟨g_found_, y_hand_, y_k_, y_other_, y_m_, rfl, z, d_found_⟩ := hI
      exact ⟨_, _, _, _, _, rfl, t _ z, OT.mo d_found_ e⟩
    · intro a x s σ H Ho N e hI dx hw
      obtain ⟨found_, rfl⟩ : ∃ q, q = s := ⟨_, rfl⟩
      obtain ⟨g_found_, y_hand_, y_k_, y_other_, y_m_, rfl, z, d_found_⟩ := hI
      have es5 := (Same.refl _).trans e
      obtain ⟨hand_, k_, other_, m_⟩ := a
      refine c_gt4 (fun v_hand_ v_k_ v_other_ v_m_ => [some v_record_, some v_found_, some v_hand_, some v_k_, some v_other_, some v_m_]) (fun _ _ _ _ => rfl) dx z (fun v_hand_ v_k_ v_other_ v_m_ d_hand_ d_k_ d_other_ d_m_ => ?_)
      obtain rfl := d_int d_hand_
      obtain rfl := d_int d_k_
      obtain rfl := d_int d_other_
      obtain rfl := d_int d_m_
      refine y_drop ?_
      refine y_bm ?_
      refine y_dsetd (y_var rfl ?_)
      refine g_isdT z d_found_ (fun a6 ea6 => ?_)
      refine k_tup ?_
      refine y_cons ?_
      refine y_var rfl ?_
      refine y_cons ?_
      refine y_var rfl ?_
      refine y_nil ?_
      refine k_tupk (K := K) (x := (other_, m_)) z (by show 2 ≤ sizeLine; decide) _ rfl (DqAll.cons (Dq.int _) (DqAll.cons (Dq.int _) DqAll.nil)) (fun p H Ho e z d7 => ?_)
      replace d_found_ := OT.mo d_found_ e
      have es8 := (Same.refl _).trans e
      refine k_lst ?_
      refine y_nil ?_
      refine k_lstk (K := K) (xs := ([] : (List (Int × Int)))) z DqAll.nil (by show 0 ≤ sizeLine; decide) (fun H p9 ws10 z d11 => ?_)
      replace z : Zs ([(p9, HO.lst ws10)] ++ (g_found_ ++ amb)) H Ho := z
      have o12 := OL.mk (p := p9) d11
      cases d11
      refine g_setd ea6 z d_found_ d7 (sd_h1 hw) (fun u13 g14 H z o15 => ?_)
      refine g_tyAt z o15 ?_
      refine y_cons ?_
      refine k_tup ?_
      refine y_cons ?_
      refine y_var rfl ?_
      refine y_cons ?_
      refine y_var rfl ?_
      refine y_nil ?_
      refine k_tupk (K := K) (x := (hand_, k_)) z (by show 2 ≤ sizeLine; decide) _ rfl (DqAll.cons (Dq.int _) (DqAll.cons (Dq.int _) DqAll.nil)) (fun p H Ho e z d16 => ?_)
      replace o15 := OTat.mo o15 e
      have es17 := es8.trans e
      refine y_nil ?_
      refine g_appAt z o15 d16 (sd_h2 hw) (fun found_ g_found_ H hm z d_found_ => ?_)
      obtain ⟨found_, d_found_, hw⟩ := sd_run hw hm d_found_
      exact (run_ret hw) _ _ _ es17 ⟨_, _, _, _, _, rfl, z, d_found_⟩
    intro s σ H Ho e hI hw
    obtain ⟨found_, rfl⟩ : ∃ q, q = s := ⟨_, rfl⟩
    obtain ⟨g_found_, y_hand_, y_k_, y_other_, y_m_, rfl, z, d_found_⟩ := hI
    have es18 := (Same.refl _).trans e
    refine y_ret ?_
    refine y_var rfl ?_
    refine t_fr d_found_ z (fun Ho g19 e z d_found_ => ?_)
    have es20 := es18.trans e
    exact (run_ret hw) _ _ _ _ es20 z d_found_
def sp_waits_for (K : PySem.W.Frag) (cl : Nat → Addr) : Sp := fun vs H Q E => ∃ (amb : Grp) (Ho : Hp) (v0 : V) (x0 : (Dc (Int × Int) (List (Int × Int)))) (v1 : V) (x1 : (Tp Int)) (v2 : V) (x2 : Int), vs = [v0, v1, v2] ∧ Zs amb H Ho ∧ BD K amb Ho v0 x0 ∧ Z.D K Ho v1 x1 ∧ Z.D K Ho v2 x2 ∧ (m_waits_for x0 x1 x2).run fun r => ∀ v H' Ho', Same Ho Ho' → Zs amb H' Ho' → Z.D K Ho' v r → Q v H'
abbrev s_waits_for : Stmt := topS 8
theorem sc_waits_for : FnScope ["firsts", "now", "hand", "there", "other", "k"] ["firsts", "now", "hand"] (defScope s_waits_for) := ⟨rfl, rfl, rfl, by decide +kernel, rfl, by decide +kernel, by decide +kernel⟩
theorem ok_waits_for {f : Addr} {fd : FuncData} (F : Fun K "waits_for" "waits_for" s_waits_for f fd) :
    FnOk P w K mg base CX0 1 f fd ["firsts", "now", "hand"] (sp_waits_for K cl) := by
  refine F.ok sc_waits_for (fun vs H Q E h => ?_) (fun cdv A outer s H vs Q E hr h => ?_)
  · obtain ⟨amb, Ho, v_firsts_, firsts_, v_now_, now_, v_hand_, hand_, rfl, _⟩ := h
    rfl
  · obtain ⟨amb, Ho, v_firsts_, firsts_, v_now_, now_, v_hand_, hand_, rfl, z, d_firsts_, d_now_, d_hand_, hw⟩ := h
    refine ⟨_, pss_cons (ps_set (i := 3) sc_waits_for.nd rfl (Or.inl rfl) (pe_dget2 (room1 hr) (pv 0) (pe_tup (pa_cons (pv 2) (pa_cons (pe_ix (zix_tup (K := K) rfl) (pv 1) (pv 2) (fun _ _ => rfl)) (pa_nil)))) (pe_lst (pa_nil)) ⟨by rfl, by rfl, by rfl, by rfl⟩)) (pss_cons (ps_ret (pe_lc (own := [("other", 4), ("k", 5)]) rfl sc_waits_for.nd (zpi_list (K := K) rfl (pv 3)) (blkOk_by (N := ["firsts", "now", "hand", "there", "other", "k"]) (sc := defScope s_waits_for) (by decide +kernel)) (fun _ _ _ _ _ => zpg_tup (K := K) (n := 2) rfl rfl (pgs_cons (pg_name (i := 4) sc_waits_for.nd rfl (Or.inl rfl)) (pgs_cons (pg_name (i := 5) sc_waits_for.nd rfl (Or.inl rfl)) (pgs_nil)))) (fun _ _ _ _ _ => pts_one (pt_cmpR (op_ge) (pv 5) (pe_ix (zix_tup (K := K) rfl) (pv 1) (pv 4) (fun _ _ => rfl)) (nomark _))) (fun _ _ _ _ _ => pe_tup (pa_cons (pv 4) (pa_cons (pv 5) (pa_nil)))))) (pss_nil)), ?_⟩
    obtain rfl := d_int d_hand_
    refine l_asg (fun v => [_, _, _, some v, _, _]) (fun _ => rfl) ?_
    refine y_dget2 ?_
    refine y_var rfl ?_
    refine g_isd (BD.sub d_firsts_ mgE) z (fun a1 ea1 => ?_)
    refine k_tup ?_
    refine y_cons ?_
    refine y_var rfl ?_
    refine y_cons ?_
    refine y_op ?_
    refine y_var rfl ?_
    refine y_var rfl ?_
    refine y_ixTp d_now_ z hw (fun t2 w d3 hw => ?_)
    first | obtain rfl := d_int d3 | cases d_int d3
    refine y_nil ?_
    refine k_tupk (K := K) (x := (hand_, t2)) z (by show 2 ≤ sizeLine; decide) _ rfl (DqAll.cons (Dq.int _) (DqAll.cons (Dq.int _) DqAll.nil)) (fun p H Ho e z d4 => ?_)
    replace d_firsts_ := BD.mo d_firsts_ e
    replace d_now_ := D.mo d_now_ e
    have es5 := (Same.refl _).trans e
    refine k_lst ?_
    refine y_nil ?_
    refine k_lstk (K := K) (xs := ([] : (List (Int × Int)))) z DqAll.nil (by show 0 ≤ sizeLine; decide) (fun H p6 ws7 z d8 => ?_)
    replace z : Zs ([(p6, HO.lst ws7)] ++ amb) H Ho := z
    have o9 := OL.mk (p := p6) d8
    refine l_fr o9 z (fun Ho e z d10 => ?_)
    replace d_firsts_ := BD.mo d_firsts_ e
    replace d_now_ := D.mo d_now_ e
    replace d4 := D.mo d4 e
    have es11 := es5.trans e
    refine g_dget2 ea1 (BD.sub d_firsts_ mgE) z d4 d10 (fun w d12 => ?_)
    refine l_d (K := K) (Ho := Ho) hw d12 (fun there_ v_there_ d_there_ hw => ?_)
    refine y_ret ?_
    refine y_lc ?_
    refine k_iList ?_
    refine y_var rfl ?_
    refine k_srcL (r0 := ([] : Grp)) (LV.of d_there_) mgN z (fun J T => ?_)
    refine y_lcG z mgN T hw (fun r13 a x H Ho N N' e z dx hw => ?_) (fun t22 H Ho e hw p19 ws20 z d21 => ?_)
    · replace z : Zs ([r13] ++ amb) H Ho := z
      replace d_now_ := D.mo d_now_ e
      replace d_there_ := D.mo d_there_ e
      have es14 := es11.trans e
      obtain ⟨other_, k_⟩ := a
      refine c_gt2 (fun v_other_ v_k_ => [some v_firsts_, some v_now_, some (V.int hand_), some v_there_, some v_other_, some v_k_]) (fun _ _ => rfl) dx z (fun v_other_ v_k_ d_other_ d_k_ => ?_)
      obtain rfl := d_int d_other_
      obtain rfl := d_int d_k_
      refine ⟨rfl, ?_⟩
      refine y_test ?_
      refine y_op ?_
      refine y_var rfl ?_
      refine y_op ?_
      refine y_var rfl ?_
      refine y_var rfl ?_
      refine y_ixTp d_now_ z hw (fun t15 w d16 hw => ?_)
      first | obtain rfl := d_int d16 | cases d_int d16
      refine y_i0 ?_
      refine ⟨_, rfl, ?_⟩
      refine w_two (fun hb => ?_) (fun hb => ?_)
      · replace hw := run_itT (run_ret hw) hb
        refine k_tup ?_
        refine y_cons ?_
        refine y_var rfl ?_
        refine y_cons ?_
        refine y_var rfl ?_
        refine y_nil ?_
        refine k_tupk (K := K) (x := (other_, k_)) z (by show 2 ≤ sizeLine; decide) _ rfl (DqAll.cons (Dq.int _) (DqAll.cons (Dq.int _) DqAll.nil)) (fun p H Ho e z d17 => ?_)
        replace d_now_ := D.mo d_now_ e
        replace d_there_ := D.mo d_there_ e
        have es18 := (Same.refl _).trans e
        exact (run_ret hw) _ _ _ es18 z d17
      · exact run_itF (run_ret hw) hb _ _ (Same.refl _) z
    replace d_now_ := D.mo d_now_ e
    replace d_there_ := D.mo d_there_ e
    have es23 := es11.trans e
    replace z : Zs ([(p19, HO.lst ws20)] ++ amb) H Ho := z
    have o24 := OL.mk (p := p19) d21
    refine l_fr o24 z (fun Ho e z d25 => ?_)
    have es26 := es23.trans e
    exact (run_ret hw) _ _ _ es26 z d25
def sp_ready (K : PySem.W.Frag) (cl : Nat → Addr) : Sp := fun vs H Q E => ∃ (amb : Grp) (Ho : Hp) (v0 : V) (x0 : (List Int)) (v1 : V) (x1 : (Dc (Int × Int) (List (Int × Int)))) (v2 : V) (x2 : (Tp Int)), vs = [v0, v1, v2] ∧ Zs amb H Ho ∧ LV K amb Ho v0 x0 ∧ BD K amb Ho v1 x1 ∧ Z.D K Ho v2 x2 ∧ (m_ready x0 x1 x2).run fun r => ∀ v H' Ho', Same Ho Ho' → Zs amb H' Ho' → Z.D K Ho' v r → Q v H'
abbrev s_ready : Stmt := topS 9
theorem sc_ready : FnScope ["counts", "firsts", "now", "hands", "hand"] ["counts", "firsts", "now"] (defScope s_ready) := ⟨rfl, rfl, rfl, by decide +kernel, rfl, by decide +kernel, by decide +kernel⟩
theorem ok_ready {f : Addr} {fd : FuncData} (F : Fun K "ready" "ready" s_ready f fd) {f_waits_for : Addr} {fd_waits_for : FuncData} (c_waits_for : Cal P w K mg base CX0 "waits_for" ["firsts", "now", "hand"] 1 (sp_waits_for K cl) f_waits_for fd_waits_for) (m_len : mg "len" = none) (m_range : mg "range" = none) :
    FnOk P w K mg base CX0 2 f fd ["counts", "firsts", "now"] (sp_ready K cl) := by
  refine F.ok sc_ready (fun vs H Q E h => ?_) (fun cdv A outer s H vs Q E hr h => ?_)
  · obtain ⟨amb, Ho, v_counts_, counts_, v_firsts_, firsts_, v_now_, now_, rfl, _⟩ := h
    rfl
  · obtain ⟨amb, Ho, v_counts_, counts_, v_firsts_, firsts_, v_now_, now_, rfl, z, d_counts_, d_firsts_, d_now_, hw⟩ := h
    refine ⟨_, pss_cons (ps_setLc (i := 3) (own := [("hand", 4)]) rfl sc_ready.nd rfl rfl (sw_true rfl rfl rfl (by decide +kernel)) (pi_range1 (by rfl) m_range (pa_cons (pe_callB (zlen (K := K) rfl) (by rfl) m_len (by decide +kernel) (pa_cons (pv 0) (pa_nil))) (pa_nil))) (blkOk_by (N := ["counts", "firsts", "now", "hands", "hand"]) (sc := defScope s_ready) (by decide +kernel)) (fun _ _ _ _ _ => pg_name (i := 4) sc_ready.nd rfl (Or.inl rfl)) (fun _ _ _ _ _ => pts_one (pt_cmpR (op_lt) (pe_ix (zix_tup (K := K) rfl) (pv 2) (pv 4) (fun _ _ => rfl)) (pe_ix (zix_list (K := K) rfl) (pv 0) (pv 4) (fun _ _ => rfl)) (nomark _))) (fun _ _ _ _ _ => pv 4)) (pss_cons (ps_ret (pe_lc (own := [("hand", 4)]) rfl sc_ready.nd (zpi_list (K := K) rfl (pv 3)) (blkOk_by (N := ["counts", "firsts", "now", "hands", "hand"]) (sc := defScope s_ready) (by decide +kernel)) (fun _ _ _ _ _ => pg_name (i := 4) sc_ready.nd rfl (Or.inl rfl)) (fun _ _ _ _ _ => pts_one (pt_cmpR (zop_eqD (K := K) rfl hr.units) (pe_call c_waits_for.ok (hr.mono (by decide)) (by rfl) c_waits_for.g c_waits_for.kp c_waits_for.b .nil pass0 (pa_cons (pv 1) (pa_cons (pv 2) (pa_cons (pv 4) (pa_nil))))) (pe_lst (pa_nil)) (nomark _))) (fun _ _ _ _ _ => pv 4))) (pss_nil)), ?_⟩
    refine l_asg (fun v => [_, _, _, some v, _]) (fun _ => rfl) ?_
    refine y_lc ?_
    refine k_iR1 ?_
    refine y_cons ?_
    refine y_cb ?_
    refine y_cons ?_
    refine y_var rfl ?_
    refine y_nil ?_
    refine y_len (LV.sub d_counts_ mgE) z ?_
    refine y_nil ?_
    refine k_srcR1 (K := K) (Ho := Ho) hw.1 (fun J T => ?_)
    replace hw := (run_gd hw).2
    refine y_lcG z mgN T hw (fun r1 hand_ v_hand_ H Ho N N' e z d_hand_ hw => ?_) (fun t10 H Ho e hw p7 ws8 z d9 => ?_)
    · replace z : Zs ([r1] ++ amb) H Ho := z
      replace d_counts_ := LV.mo d_counts_ e
      replace d_firsts_ := BD.mo d_firsts_ e
      replace d_now_ := D.mo d_now_ e
      have es2 := (Same.refl _).trans e
      obtain rfl := d_int d_hand_
      refine y_gname (σ' := [some v_counts_, some v_firsts_, some v_now_, none, some (V.int hand_)]) rfl ?_
      refine ⟨rfl, ?_⟩
      refine y_test ?_
      refine y_op ?_
      refine y_op ?_
      refine y_var rfl ?_
      refine y_var rfl ?_
      refine y_ixTp d_now_ z hw (fun t3 w d4 hw => ?_)
      first | obtain rfl := d_int d4 | cases d_int d4
      refine y_op ?_
      refine y_var rfl ?_
      refine y_var rfl ?_
      refine y_ixL (LV.sub d_counts_ (mgS mgE)) z hw (fun t5 w d6 hw => ?_)
      first | obtain rfl := d_int d6 | cases d_int d6
      refine y_i0 ?_
      refine ⟨_, rfl, ?_⟩
      refine w_two (fun hb => ?_) (fun hb => ?_)
      · replace hw := run_itT (run_ret hw) hb
        refine y_var rfl ?_
        exact (run_ret hw) _ _ _ (Same.refl _) z (Dq.int _)
      · exact run_itF (run_ret hw) hb _ _ (Same.refl _) z
    replace d_counts_ := LV.mo d_counts_ e
    replace d_firsts_ := BD.mo d_firsts_ e
    replace d_now_ := D.mo d_now_ e
    have es11 := (Same.refl _).trans e
    replace z : Zs ([(p7, HO.lst ws8)] ++ amb) H Ho := z
    have o12 := OL.mk (p := p7) d9
    refine l_fr o12 z (fun Ho e z d13 => ?_)
    replace d_firsts_ := BD.mo d_firsts_ e
    replace d_now_ := D.mo d_now_ e
    have es14 := es11.trans e
    refine l_d (K := K) (Ho := Ho) hw d13 (fun hands_ v_hands_ d_hands_ hw => ?_)
    refine y_ret ?_
    refine y_lc ?_
    refine k_iList ?_
    refine y_var rfl ?_
    refine k_srcL (r0 := ([] : Grp)) (LV.of d_hands_) mgN z (fun J T => ?_)
    refine y_lcG z mgN T hw (fun r15 hand_ v_hand_ H Ho N N' e z d_hand_ hw => ?_) (fun t28 H Ho e hw p25 ws26 z d27 => ?_)
    · replace z : Zs ([r15] ++ amb) H Ho := z
      replace d_firsts_ := BD.mo d_firsts_ e
      replace d_hands_ := D.mo d_hands_ e
      replace d_now_ := D.mo d_now_ e
      have es16 := es14.trans e
      obtain rfl := d_int d_hand_
      refine y_gname (σ' := [some v_counts_, some v_firsts_, some v_now_, some v_hands_, some (V.int hand_)]) rfl ?_
      refine ⟨rfl, ?_⟩
      refine y_test ?_
      refine y_op ?_
      refine y_call ?_
      refine y_cons ?_
      refine y_var rfl ?_
      refine y_cons ?_
      refine y_var rfl ?_
      refine y_cons ?_
      refine y_var rfl ?_
      refine y_nil ?_
      refine ⟨([r15] ++ amb), _, _, _, _, _, _, _, rfl, z, (BD.sub d_firsts_ (mgS mgE)), d_now_, (Dq.int _), ?_⟩
      refine run_mono3 hw (fun t17 hw v H Ho e z d18 => ?_)
      replace d_firsts_ := BD.mo d_firsts_ e
      replace d_hands_ := D.mo d_hands_ e
      replace d_now_ := D.mo d_now_ e
      have es20 := (Same.refl _).trans e
      refine k_lst ?_
      refine y_nil ?_
      refine k_lstk (K := K) (xs := ([] : (List (Int × Int)))) z DqAll.nil (by show 0 ≤ sizeLine; decide) (fun H p21 ws22 z d23 => ?_)
      replace z : Zs ([(p21, HO.lst ws22)] ++ ([r15] ++ amb)) H Ho := z
      have o24 := OL.mk (p := p21) d23
      refine y_eqD (D.mo d18 z.le) (LV.dp (OL.lv o24 mg0) z) hw.1 ?_
      replace hw := (run_gd hw).2
      refine ⟨_, rfl, ?_⟩
      replace z : Zs ([r15] ++ amb) _ _ := z.go [[(p21, HO.lst ws22)], [r15]] amb [1]
      refine w_two (fun hb => ?_) (fun hb => ?_)
      · replace hw := run_itT (run_ret hw) hb
        refine y_var rfl ?_
        exact (run_ret hw) _ _ _ es20 z (Dq.int _)
      · exact run_itF (run_ret hw) hb _ _ es20 z
    replace d_firsts_ := BD.mo d_firsts_ e
    replace d_hands_ := D.mo d_hands_ e
    replace d_now_ := D.mo d_now_ e
    have es29 := es14.trans e
    replace z : Zs ([(p25, HO.lst ws26)] ++ amb) H Ho := z
    have o30 := OL.mk (p := p25) d27
    refine l_fr o30 z (fun Ho e z d31 => ?_)
    have es32 := es29.trans e
    exact (run_ret hw) _ _ _ es32 z d31
def sp_next_layer (K : PySem.W.Frag) (cl : Nat → Addr) : Sp := fun vs H Q E => ∃ (amb : Grp) (Ho : Hp) (v0 : V) (x0 : (List Int)) (v1 : V) (x1 : (Dc (Int × Int) (List (Int × Int)))) (v2 : V) (x2 : (Dc (Tp Int) Int)) (g2 : Grp), vs = [v0, v1, v2] ∧ Zs (g2 ++ amb) H Ho ∧ LV K amb Ho v0 x0 ∧ BD K amb Ho v1 x1 ∧ OD K Ho v2 x2 g2 ∧ (m_next_layer x0 x1 x2).run fun r => ∀ v g h2 H' Ho', Same Ho Ho' → Zs (g ++ (h2 ++ amb)) H' Ho' → OD K Ho' v r.1 g → OD K Ho' v2 r.2 h2 → Q v H'
abbrev s_next_layer : Stmt := topS 10
theorem sc_next_layer : FnScope ["counts", "firsts", "here", "there", "now", "ways", "hand", "after"] ["counts", "firsts", "here"] (defScope s_next_layer) := ⟨rfl, rfl, rfl, by decide +kernel, rfl, by decide +kernel, by decide +kernel⟩
theorem ok_next_layer {f : Addr} {fd : FuncData} (F : Fun K "next_layer" "next_layer" s_next_layer f fd) {f_ready : Addr} {fd_ready : FuncData} (c_ready : Cal P w K mg base CX0 "ready" ["counts", "firsts", "now"] 2 (sp_ready K cl) f_ready fd_ready) :
    FnOk P w K mg base CX0 3 f fd ["counts", "firsts", "here"] (sp_next_layer K cl) := by
  refine F.ok sc_next_layer (fun vs H Q E h => ?_) (fun cdv A outer s H vs Q E hr h => ?_)
  · obtain ⟨amb, Ho, v_counts_, counts_, v_firsts_, firsts_, v_here_, here_, g_here_, rfl, _⟩ := h
    rfl
  · obtain ⟨amb, Ho, v_counts_, counts_, v_firsts_, firsts_, v_here_, here_, g_here_, rfl, z, d_counts_, d_firsts_, d_here_, hw⟩ := h
    refine ⟨_, pss_cons (ps_set (i := 3) sc_next_layer.nd rfl (Or.inl rfl) (pe_dnewT)) (pss_cons (ps_lock (ps_for PassesOwn.never rfl (pi_itemsT (pv 2)) (zpg_tup (K := K) (n := 2) rfl rfl (pgs_cons (pg_name (i := 4) sc_next_layer.nd rfl (Or.inl rfl)) (pgs_cons (pg_name (i := 5) sc_next_layer.nd rfl (Or.inl rfl)) (pgs_nil)))) (pss_cons (ps_for PassesOwn.never rfl (zpi_list (K := K) rfl (pe_call c_ready.ok (hr.mono (by decide)) (by rfl) c_ready.g c_ready.kp c_ready.b .nil pass0 (pa_cons (pv 0) (pa_cons (pv 1) (pa_cons (pv 4) (pa_nil)))))) (pg_name (i := 6) sc_next_layer.nd rfl (Or.inl rfl)) (pss_cons (ps_set (i := 7) sc_next_layer.nd rfl (Or.inl rfl) (pe_op (zop_catA (K := K) rfl) (pe_op (zop_catA (K := K) rfl) (pe_slice (zsl_tupA (K := K) rfl) (pv 4) po_none (po_some (pv 6))) (pe_tup (pa_cons (pe_op op_add (pe_ix (zix_tup (K := K) rfl) (pv 4) (pv 6) (fun _ _ => rfl)) (pe_int)) (pa_nil)))) (pe_slice (zsl_tupA (K := K) rfl) (pv 4) (po_some (pe_op op_add (pv 6) (pe_int))) po_none))) (pss_cons (ps_dput (room1 hr) (pv 3) (pv 7) (pe_op op_add (pe_dget2 (room1 hr) (pv 3) (pv 7) (pe_int) ⟨by rfl, by rfl, by rfl, by rfl⟩) (pv 5)) (by rfl)) (pss_nil)))) (pss_nil)))) (pss_cons (ps_ret (pv 3)) (pss_nil))), ?_⟩
    refine l_asg (fun v => [_, _, _, some v, _, _, _, _]) (fun _ => rfl) ?_
    refine g_dnewTp (K := K) (α := Int) z (fun H v1 g2 z o3 => ?_)
    refine d_o hw z o3 (fun there_ v_there_ g_there_ z d_there_ hw => ?_)
    replace z : Zs (g_here_ ++ (g_there_ ++ amb)) _ _ := z.go [g_there_, g_here_] amb [1, 0]
    refine k_lockS d_here_ z (fun g4 H u1 D1 z o5 unl6 => ?_)
    refine y_for ?_
    refine k_iItems ?_
    refine y_var rfl ?_
    refine k_srcIt o5 mg0 z (fun J T => ?_)
    refine y_forL T hw (fun (s : (Dc (Tp Int) Int)) (σ : L2.St) (H Ho : Hp) => ∃ (g_there_ : Grp) (y_now_ : Option V) (y_ways_ : Option V) (y_hand_ : Option V) (y_after_ : Option V), σ = [some v_counts_, some v_firsts_, some v_here_, some v_there_, y_now_, y_ways_, y_hand_, y_after_] ∧ Zs (g4 ++ (g_there_ ++ amb)) H Ho ∧ OD K Ho v_there_ s g_there_) ⟨_, _, _, _, _, rfl, z, d_there_⟩ ?_ ?_ ?_ ?_
    · intro s σ H Ho hI
      obtain ⟨g_there_, y_now_, y_ways_, y_hand_, y_after_, rfl, z, d_there_⟩ := hI
      exact ⟨_, z, mg0⟩
    · intro s σ H Ho H2 Ho2 hI e t
      obtain ⟨g_there_, y_now_, y_ways_, y_hand_, y_after_, rfl, z, d_there_⟩ := hI
      exact ⟨_, _, _, _, _, rfl, t _ z, OD.mo d_there_ e⟩
    · intro a x s σ H Ho N e hI dx hw
      obtain ⟨there_, rfl⟩ : ∃ q, q = s := ⟨_, rfl⟩
      obtain ⟨g_there_, y_now_, y_ways_, y_hand_, y_after_, rfl, z, d_there_⟩ := hI
      replace d_counts_ := LV.mo d_counts_ e
      replace d_firsts_ := BD.mo d_firsts_ e
      replace o5 := OG.mo o5 e
      have es7 := (Same.refl _).trans e
      obtain ⟨now_, ways_⟩ := a
      refine c_gt2 (fun v_now_ v_ways_ => [some v_counts_, some v_firsts_, some v_here_, some v_there_, some v_now_, some v_ways_, y_hand_, y_after_]) (fun _ _ => rfl) dx z (fun v_now_ v_ways_ d_now_ d_ways_ => ?_)
      obtain rfl := d_int d_ways_
      refine y_for ?_
      refine k_iList ?_
      refine y_call ?_
      refine y_cons ?_
      refine y_var rfl ?_
      refine y_cons ?_
      refine y_var rfl ?_
      refine y_cons ?_
      refine y_var rfl ?_
      refine y_nil ?_
      refine ⟨(g4 ++ (g_there_ ++ amb)), _, _, _, _, _, _, _, rfl, z, (LV.sub d_counts_ (mgS (mgS mgE))), (BD.sub d_firsts_ (mgS (mgS mgE))), d_now_, ?_⟩
      refine run_mono3 hw (fun t8 hw v H Ho e z d9 => ?_)
      replace d_counts_ := LV.mo d_counts_ e
      replace d_firsts_ := BD.mo d_firsts_ e
      replace o5 := OG.mo o5 e
      replace d_now_ := D.mo d_now_ e
      replace d_there_ := OD.mo d_there_ e
      have es11 := (Same.refl _).trans e
      refine k_srcL (r0 := ([] : Grp)) (LV.of d9) mgN z (fun J T => ?_)
      refine y_forL T hw (fun (s : (Dc (Tp Int) Int)) (σ : L2.St) (H Ho : Hp) => ∃ (g_there_ : Grp) (y_hand_ : Option V) (y_after_ : Option V), σ = [some v_counts_, some v_firsts_, some v_here_, some v_there_, some v_now_, some (V.int ways_), y_hand_, y_after_] ∧ Zs (g4 ++ (g_there_ ++ amb)) H Ho ∧ OD K Ho v_there_ s g_there_) ⟨_, _, _, rfl, z, d_there_⟩ ?_ ?_ ?_ ?_
      · intro s σ H Ho hI
        obtain ⟨g_there_, y_hand_, y_after_, rfl, z, d_there_⟩ := hI
        exact ⟨_, z, mgN⟩
      · intro s σ H Ho H2 Ho2 hI e t
        obtain ⟨g_there_, y_hand_, y_after_, rfl, z, d_there_⟩ := hI
        exact ⟨_, _, _, rfl, t _ z, OD.mo d_there_ e⟩
      · intro hand_ v_hand_ s σ H Ho N e hI d_hand_ hw
        obtain ⟨there_, rfl⟩ : ∃ q, q = s := ⟨_, rfl⟩
        obtain ⟨g_there_, y_hand_, y_after_, rfl, z, d_there_⟩ := hI
        replace d_counts_ := LV.mo d_counts_ e
        replace d_firsts_ := BD.mo d_firsts_ e
        replace o5 := OG.mo o5 e
        replace d_now_ := D.mo d_now_ e
        have es12 := es11.trans e
        obtain rfl := d_int d_hand_
        refine y_gname (σ' := [some v_counts_, some v_firsts_, some v_here_, some v_there_, some v_now_, some (V.int ways_), some (V.int hand_), y_after_]) rfl ?_
        refine l_asg (fun v => [_, _, _, _, _, _, _, some v]) (fun _ => rfl) ?_
        refine y_op ?_
        refine y_op ?_
        refine y_sl ?_
        refine y_var rfl ?_
        refine y_noPart ?_
        refine y_part ?_
        refine y_var rfl ?_
        refine ⟨_, rfl, ?_⟩
        refine y_slTp d_now_ z (fun w H Ho e z d13 => ?_)
        replace d_counts_ := LV.mo d_counts_ e
        replace d_firsts_ := BD.mo d_firsts_ e
        replace o5 := OG.mo o5 e
        replace d_now_ := D.mo d_now_ e
        replace d_there_ := OD.mo d_there_ e
        have es14 := (Same.refl _).trans e
        refine k_tup ?_
        refine y_cons ?_
        refine y_op ?_
        refine y_op ?_
        refine y_var rfl ?_
        refine y_var rfl ?_
        refine y_ixTp d_now_ z hw (fun t15 w d16 hw => ?_)
        first | obtain rfl := d_int d16 | cases d_int d16
        refine y_c ?_
        refine y_i0 ?_
        refine y_nil ?_
        refine k_tupk (K := K) (x := (⟨[(t15 + (1 : Int))]⟩ : (Tp Int))) z (by show 1 ≤ sizeLine; decide) _ rfl (DqAll.cons (Dq.int _) DqAll.nil) (fun p H Ho e z d17 => ?_)
        replace d_counts_ := LV.mo d_counts_ e
        replace d_firsts_ := BD.mo d_firsts_ e
        replace o5 := OG.mo o5 e
        replace d_now_ := D.mo d_now_ e
        replace d_there_ := OD.mo d_there_ e
        replace d13 := D.mo d13 e
        have es18 := es14.trans e
        refine y_catTp d13 d17 z hw.1 (fun w H Ho e z d19 => ?_)
        replace hw := (run_gd hw).2
        replace d_counts_ := LV.mo d_counts_ e
        replace d_firsts_ := BD.mo d_firsts_ e
        replace o5 := OG.mo o5 e
        replace d_now_ := D.mo d_now_ e
        replace d_there_ := OD.mo d_there_ e
        have es20 := es18.trans e
        refine y_sl ?_
        refine y_var rfl ?_
        refine y_part ?_
        refine y_op ?_
        refine y_var rfl ?_
        refine y_c ?_
        refine y_i0 ?_
        refine ⟨_, rfl, ?_⟩
        refine y_noPart ?_
        refine y_slTp d_now_ z (fun w H Ho e z d21 => ?_)
        replace d_counts_ := LV.mo d_counts_ e
        replace d_firsts_ := BD.mo d_firsts_ e
        replace o5 := OG.mo o5 e
        replace d_now_ := D.mo d_now_ e
        replace d_there_ := OD.mo d_there_ e
        replace d19 := D.mo d19 e
        have es22 := es20.trans e
        refine y_catTp d19 d21 z hw.1 (fun w H Ho e z d23 => ?_)
        replace hw := (run_gd hw).2
        replace d_counts_ := LV.mo d_counts_ e
        replace d_firsts_ := BD.mo d_firsts_ e
        replace o5 := OG.mo o5 e
        replace d_now_ := D.mo d_now_ e
        replace d_there_ := OD.mo d_there_ e
        have es24 := es22.trans e
        refine l_d (K := K) (Ho := Ho) hw d23 (fun after_ v_after_ d_after_ hw => ?_)
        refine y_dput ?_
        refine y_op ?_
        refine y_dget2 ?_
        refine y_var rfl ?_
        refine g_isd ⟨_, d_there_, (mgS mg0)⟩ z (fun a25 ea25 => ?_)
        refine y_var rfl ?_
        refine y_c ?_
        refine g_dget2 ea25 ⟨_, d_there_, (mgS mg0)⟩ z d_after_ (Dq.int _) (fun w d26 => ?_)
        obtain rfl := d_int d26
        refine y_var rfl ?_
        refine y_i0 ?_
        refine y_var rfl ?_
        refine y_var rfl ?_
        replace z : Zs (g_there_ ++ (g4 ++ amb)) _ _ := z.go [g4, g_there_] amb [1, 0]
        refine g_dput z d_there_ d_after_ (Dq.int _) hw (fun there_ g_there_ H z d_there_ hw => ?_)
        replace z : Zs (g4 ++ (g_there_ ++ amb)) _ _ := z.go [g_there_, g4] amb [1, 0]
        exact (run_ret hw) _ _ _ es24 ⟨_, _, _, rfl, z, d_there_⟩
      intro s σ H Ho e hI hw
      obtain ⟨there_, rfl⟩ : ∃ q, q = s := ⟨_, rfl⟩
      obtain ⟨g_there_, y_hand_, y_after_, rfl, z, d_there_⟩ := hI
      replace d_counts_ := LV.mo d_counts_ e
      replace d_firsts_ := BD.mo d_firsts_ e
      replace o5 := OG.mo o5 e
      replace d_now_ := D.mo d_now_ e
      have es27 := es11.trans e
      exact (run_ret hw) _ _ _ es27 ⟨_, _, _, _, _, rfl, z, d_there_⟩
    intro s σ H Ho e hI hw
    obtain ⟨there_, rfl⟩ : ∃ q, q = s := ⟨_, rfl⟩
    obtain ⟨g_there_, y_now_, y_ways_, y_hand_, y_after_, rfl, z, d_there_⟩ := hI
    replace o5 := OG.mo o5 e
    have es28 := (Same.refl _).trans e
    refine unl6 _ _ _ _ z (fun H z => ?_)
    have o29 := OG.od o5
    refine y_ret ?_
    refine y_var rfl ?_
    replace z : Zs (g_there_ ++ (g_here_ ++ amb)) _ _ := z.go [g_here_, g_there_] amb [1, 0]
    exact (run_ret hw) _ _ _ _ _ es28 z d_there_ o29
def sp_layers (K : PySem.W.Frag) (cl : Nat → Addr) : Sp := fun vs H Q E => ∃ (amb : Grp) (Ho : Hp) (v0 : V) (x0 : ((List Int) × (List (P4 Int Int Int Int)))) (v1 : V) (x1 : Int), vs = [v0, v1] ∧ Zs amb H Ho ∧ Z.D K Ho v0 x0 ∧ Z.D K Ho v1 x1 ∧ (m_layers x0 x1).run (ExP (fun r => ∀ v H' Ho', Same Ho Ho' → Zs amb H' Ho' → Z.D K Ho' v r → Q v H') fun e => ∀ H' Ho', Same Ho Ho' → Zs amb H' Ho' → E (.ref (cl e.cls)) none H')
abbrev s_layers : Stmt := topS 11
theorem sc_layers : FnScope ["record", "most", "counts", "firsts", "here", "many", "step"] ["record", "most"] (defScope s_layers) := ⟨rfl, rfl, rfl, by decide +kernel, rfl, by decide +kernel, by decide +kernel⟩
theorem ok_layers {f : Addr} {fd : FuncData} (F : Fun K "layers" "layers" s_layers f fd) {f_need_record : Addr} {fd_need_record : FuncData} (c_need_record : Cal P w K mg base (L2.CX P w) "need_record" ["record"] 2 (sp_need_record K cl) f_need_record fd_need_record) {f_firsts_of : Addr} {fd_firsts_of : FuncData} (c_firsts_of : Cal P w K mg base CX0 "firsts_of" ["record"] 1 (sp_firsts_of K cl) f_firsts_of fd_firsts_of) {f_next_layer : Addr} {fd_next_layer : FuncData} (c_next_layer : Cal P w K mg base CX0 "next_layer" ["counts", "firsts", "here"] 3 (sp_next_layer K cl) f_next_layer fd_next_layer) (m_len : mg "len" = none) (m_tuple : mg "tuple" = none) (m_sum : mg "sum" = none) (m_range : mg "range" = none) (xx_TooMany : PySem.W.excIn K (cl 1) [.type "ValueError", .type "Exception", .type "BaseException", .type "object"] "ValueError.__new__" = true) (gc_TooMany : mg "TooMany" = some (.ref (cl 1))) (kk_TooMany : PySem.W.keepIn K (.ref (cl 1)) = true) (bb_TooMany : PySem.W.subIn K (.ref (cl 1)) (.type "BaseException") = some true) (tt_TooMany : PySem.W.typeIn K (.ref (cl 1)) = some (.type "type")) :
    FnOk P w K mg base (L2.CX P w) 4 f fd ["record", "most"] (sp_layers K cl) := by
  refine F.okX sc_layers (fun vs H Q E h => ?_) (fun cdv A outer s H vs Q E hr h => ?_)
  · obtain ⟨amb, Ho, v_record_, record_, v_most_, most_, rfl, _⟩ := h
    rfl
  · obtain ⟨amb, Ho, v_record_, record_, v_most_, most_, rfl, z, d_record_, d_most_, hw⟩ := h
    refine ⟨_, pss_cons (ps_expr ((by exact (pe_callS c_need_record.ok (hr.mono (by decide)) (by rfl) c_need_record.g c_need_record.kp c_need_record.b (fun σ => passAt (takes_of rfl rfl rfl rfl) σ) (pa_cons (pv 0) (pa_nil)))))) (pss_cons (ps_set (i := 2) sc_layers.nd rfl (Or.inl rfl) (pe_ix (zix_tup (K := K) rfl) (pv 0) (pe_int) (fun _ _ => rfl))) (pss_cons (ps_set (i := 3) sc_layers.nd rfl (Or.inl rfl) (pe_call c_firsts_of.ok (hr.mono (by decide)) (by rfl) c_firsts_of.g c_firsts_of.kp c_firsts_of.b .nil pass0 (pa_cons (pv 0) (pa_nil)))) (pss_cons (ps_set (i := 4) sc_layers.nd rfl (Or.inl rfl) (pe_disp1T (room1 hr) (pe_callTy (ztupL (K := K) rfl) (by rfl) m_tuple (by decide +kernel) (pa_cons (pe_op op_rep (pe_lst (pa_cons (pe_int) (pa_nil))) (pe_callB (zlen (K := K) rfl) (by rfl) m_len (by decide +kernel) (pa_cons (pv 2) (pa_nil)))) (pa_nil))) (pe_int))) (pss_cons (ps_set (i := 5) sc_layers.nd rfl (Or.inl rfl) (pe_callB zlenDT (by rfl) m_len (by decide +kernel) (pa_cons (pv 4) (pa_nil)))) (pss_cons (ps_for (passes_of rfl) rfl (pi_range1 (by rfl) m_range (pa_cons (pe_callB (zsum (K := K) rfl rfl) (by rfl) m_sum (by decide +kernel) (pa_cons (pv 2) (pa_nil))) (pa_nil))) (pg_name (i := 6) sc_layers.nd rfl (Or.inl rfl)) (pss_cons (ps_if (pt_cmpR (op_le) (pv 5) (pv 1) (nomark _)) (pss_cons (ps_set (i := 4) sc_layers.nd rfl (Or.inl rfl) (pe_call c_next_layer.ok (hr.mono (by decide)) (by rfl) c_next_layer.g c_next_layer.kp c_next_layer.b .nil pass0 (pa_cons (pv 2) (pa_cons (pv 3) (pa_cons (pv 4) (pa_nil)))))) (pss_cons (ps_aug (i := 5) sc_layers.nd rfl (Or.inl rfl) (pe_callB zlenDT (by rfl) m_len (by decide +kernel) (pa_cons (pv 4) (pa_nil))) ip_add) (pss_nil))) (pss_nil)) (pss_nil))) (pss_cons (ps_if (pt_cmpR (op_gt) (pv 5) (pv 1) (nomark _)) (pss_cons (zps_raise (K := K) rfl rfl (takes_of rfl rfl rfl rfl) xx_TooMany gc_TooMany kk_TooMany bb_TooMany tt_TooMany (by rfl)) (pss_nil)) (pss_nil)) (pss_cons (ps_ret (pe_tup (pa_cons (pv 5) (pa_cons (pe_dget2 (room1 hr) (pv 4) (pe_callTy (ztupL (K := K) rfl) (by rfl) m_tuple (by decide +kernel) (pa_cons (pv 2) (pa_nil))) (pe_int) ⟨by rfl, by rfl, by rfl, by rfl⟩) (pa_nil))))) (pss_nil)))))))), ?_⟩
    obtain rfl := d_int d_most_
    refine y_drop ?_
    refine y_callS ?_
    refine y_cons ?_
    refine y_var rfl ?_
    refine y_nil ?_
    refine ⟨amb, _, _, _, rfl, z, d_record_, ?_⟩
    refine exm_mono (run_exm hw) (fun t1 hw v H Ho e z d2 => ?_) (fun er hw H Ho e z => ?_)
    rotate_left
    · exact exP_er (run_ret hw) _ _ ((Same.refl _).trans e) z
    replace d_record_ := D.mo d_record_ e
    have es4 := (Same.refl _).trans e
    cases d2
    refine l_asg (fun v => [_, _, some v, _, _, _, _]) (fun _ => rfl) ?_
    refine y_op ?_
    refine y_var rfl ?_
    refine y_c ?_
    refine y_ixT (y := record_.1) d_record_ z ⟨_, rfl, rfl⟩ (fun w d5 => ?_)
    refine l_d (K := K) (Ho := Ho) hw d5 (fun counts_ v_counts_ d_counts_ hw => ?_)
    refine l_asg (fun v => [_, _, _, some v, _, _, _]) (fun _ => rfl) ?_
    refine y_call ?_
    refine y_cons ?_
    refine y_var rfl ?_
    refine y_nil ?_
    refine ⟨amb, _, _, _, rfl, z, d_record_, ?_⟩
    refine run_mono3 hw (fun t6 hw v g8 H Ho e z d7 => ?_)
    replace d_counts_ := D.mo d_counts_ e
    replace d_record_ := D.mo d_record_ e
    have es9 := es4.trans e
    refine d_o hw z d7 (fun firsts_ v_firsts_ g_firsts_ z d_firsts_ hw => ?_)
    refine l_asg (fun v => [_, _, _, _, some v, _, _]) (fun _ => rfl) ?_
    refine k_disp1T z (fun p10 H z => ?_)
    replace z : Zs ([(p10, HO.dT [])] ++ (g_firsts_ ++ amb)) _ _ := z
    refine y_cb ?_
    refine y_cons ?_
    refine y_op ?_
    refine k_lst ?_
    refine y_cons ?_
    refine y_c ?_
    refine y_nil ?_
    refine k_lstk (K := K) (xs := ([(0 : Int)] : (List Int))) z (DqAll.cons (Dq.int _) DqAll.nil) (by show 1 ≤ sizeLine; decide) (fun H p11 ws12 z d13 => ?_)
    replace z : Zs ([(p11, HO.lst ws12)] ++ ([(p10, HO.dT [])] ++ (g_firsts_ ++ amb))) H Ho := z
    have o14 := OL.mk (p := p11) d13
    refine y_cb ?_
    refine y_cons ?_
    refine y_var rfl ?_
    refine y_nil ?_
    refine y_len (LV.of d_counts_) z ?_
    refine y_rep z d13 hw.1 (fun H p15 ws16 z d17 => ?_)
    replace hw := (run_gd hw).2
    replace z : Zs ([(p15, HO.lst ws16)] ++ ([(p10, HO.dT [])] ++ (g_firsts_ ++ amb))) H Ho := z
    have o18 := OL.mk (p := p15) d17
    refine y_nil ?_
    refine y_tupL (OL.lv o18 mg0) z (fun p H Ho e z d19 => ?_)
    replace d_counts_ := D.mo d_counts_ e
    replace d_firsts_ := OD.mo d_firsts_ e
    have es20 := es9.trans e
    refine y_c ?_
    replace z : Zs ([(p10, HO.dT [])] ++ ([(p15, HO.lst ws16)] ++ (g_firsts_ ++ amb))) _ _ := z.go [[(p15, HO.lst ws16)], [(p10, HO.dT [])], g_firsts_] amb [1, 0, 2]
    refine g_disp1P (a := (1 : Int)) z d19 (Dq.int _) (fun g21 H z o22 => ?_)
    refine d_o hw z o22 (fun here_ v_here_ g_here_ z d_here_ hw => ?_)
    replace z : Zs (g_here_ ++ (g_firsts_ ++ amb)) _ _ := z.go [g_here_, [(p15, HO.lst ws16)], g_firsts_] amb [0, 2]
    refine l_asg (fun v => [_, _, _, _, _, some v, _]) (fun _ => rfl) ?_
    refine y_cb ?_
    refine y_cons ?_
    refine y_var rfl ?_
    refine y_nil ?_
    refine y_lenDT ⟨_, d_here_, mg0⟩ z ?_
    refine l_i hw (fun many_ hw => ?_)
    refine y_for ?_
    refine k_iR1 ?_
    refine y_cons ?_
    refine y_cb ?_
    refine y_cons ?_
    refine y_var rfl ?_
    refine y_nil ?_
    refine y_sum (LV.of d_counts_) z ?_
    refine y_nil ?_
    refine k_srcR1 (K := K) (Ho := Ho) hw.1 (fun J T => ?_)
    replace hw := (run_gd hw).2
    refine y_forL T hw (fun (s : (Dc (Tp Int) Int) × Int) (σ : L2.St) (H Ho : Hp) => ∃ (v_here_ : V) (g_here_ : Grp) (y_step_ : Option V), σ = [some v_record_, some (V.int most_), some v_counts_, some v_firsts_, some v_here_, some (V.int s.2), y_step_] ∧ Zs (g_here_ ++ (g_firsts_ ++ amb)) H Ho ∧ OD K Ho v_here_ s.1 g_here_) ⟨_, _, _, rfl, z, d_here_⟩ ?_ ?_ ?_ ?_
    · intro s σ H Ho hI
      obtain ⟨here_, many_⟩ := s
      obtain ⟨v_here_, g_here_, y_step_, rfl, z, d_here_⟩ := hI
      exact ⟨_, z, mgN⟩
    · intro s σ H Ho H2 Ho2 hI e t
      obtain ⟨here_, many_⟩ := s
      obtain ⟨v_here_, g_here_, y_step_, rfl, z, d_here_⟩ := hI
      exact ⟨_, _, _, rfl, t _ z, OD.mo d_here_ e⟩
    · intro step_ v_step_ s σ H Ho N e hI d_step_ hw
      obtain ⟨here_, many_⟩ := s
      obtain ⟨v_here_, g_here_, y_step_, rfl, z, d_here_⟩ := hI
      replace d_counts_ := D.mo d_counts_ e
      replace d_firsts_ := OD.mo d_firsts_ e
      have es23 := es20.trans e
      obtain rfl := d_int d_step_
      refine y_gname (σ' := [some v_record_, some (V.int most_), some v_counts_, some v_firsts_, some v_here_, some (V.int many_), some (V.int step_)]) rfl ?_
      refine y_ifS ?_
      refine y_test ?_
      refine y_op ?_
      refine y_var rfl ?_
      refine y_var rfl ?_
      refine y_i0 ?_
      refine ⟨_, rfl, ?_⟩
      refine w_ifJ hw (fun (s : (Dc (Tp Int) Int) × Int) (σ : L2.St) (H : Hp) => ∃ Ho2, Same Ho Ho2 ∧ (fun (s : (Dc (Tp Int) Int) × Int) (σ : L2.St) (H Ho : Hp) => ∃ (v_here_ : V) (g_here_ : Grp), σ = [some v_record_, some (V.int most_), some v_counts_, some v_firsts_, some v_here_, some (V.int s.2), some (V.int step_)] ∧ Zs (g_here_ ++ (g_firsts_ ++ amb)) H Ho ∧ OD K Ho v_here_ s.1 g_here_) s σ H Ho2) (fun hb hw => ?_) (fun hb hw => ?_) ?_
      · refine l_asg (fun v => [_, _, _, _, some v, _, _]) (fun _ => rfl) ?_
        refine y_call ?_
        refine y_cons ?_
        refine y_var rfl ?_
        refine y_cons ?_
        refine y_var rfl ?_
        refine y_cons ?_
        refine y_var rfl ?_
        refine y_nil ?_
        refine ⟨(g_firsts_ ++ amb), _, _, _, _, _, _, _, _, rfl, z, (LV.of d_counts_), ⟨_, d_firsts_, mg0⟩, d_here_, ?_⟩
        refine run_mono2 hw (fun t24 here_ hw v g26 g_here_ H Ho e z d25 d_here_ => ?_)
        replace d25 : OD K Ho v t24 g26 := d25
        replace d_here_ : OD K Ho v_here_ here_ g_here_ := d_here_
        replace d_counts_ := D.mo d_counts_ e
        replace d_firsts_ := OD.mo d_firsts_ e
        have es27 := (Same.refl _).trans e
        replace z : Zs (g26 ++ (g_firsts_ ++ amb)) _ _ := z.go [g26, g_here_, g_firsts_] amb [0, 2]
        refine d_o hw z d25 (fun here_ v_here_ g_here_ z d_here_ hw => ?_)
        refine l_aug (fun v => [_, _, _, _, _, some v, _]) rfl (fun _ => rfl) ?_
        refine y_cb ?_
        refine y_cons ?_
        refine y_var rfl ?_
        refine y_nil ?_
        refine y_lenDT ⟨_, d_here_, mg0⟩ z ?_
        refine y_ip (l_i hw (fun many_ hw => ?_))
        exact (run_ret hw) _ _ ⟨_, es27, ⟨_, _, rfl, z, d_here_⟩⟩
      · refine y_nxS ?_
        exact (run_ret hw) _ _ ⟨_, (Same.refl _), ⟨_, _, rfl, z, d_here_⟩⟩
      rintro ⟨here_, many_⟩ σ H ⟨Ho, e, v_here_, g_here_, rfl, z, d_here_⟩ hw
      replace d_counts_ := D.mo d_counts_ e
      replace d_firsts_ := OD.mo d_firsts_ e
      have es28 := (Same.refl _).trans e
      exact (run_ret hw) _ _ _ es28 ⟨_, _, _, rfl, z, d_here_⟩
    intro s σ H Ho e hI hw
    obtain ⟨here_, many_⟩ := s
    obtain ⟨v_here_, g_here_, y_step_, rfl, z, d_here_⟩ := hI
    replace d_counts_ := D.mo d_counts_ e
    replace d_firsts_ := OD.mo d_firsts_ e
    have es29 := es20.trans e
    refine y_ifS ?_
    refine y_test ?_
    refine y_op ?_
    refine y_var rfl ?_
    refine y_var rfl ?_
    refine y_i0 ?_
    refine ⟨_, rfl, ?_⟩
    refine y_cases hw (fun hb hw => ?_) (fun hb hw => ?_)
    · refine y_raise ?_
      replace z : Zs amb _ _ := z.go [g_here_, g_firsts_] amb []
      exact exP_er (run_ret hw) _ _ es29 z
    · refine y_nxS ?_
      refine y_ret ?_
      refine k_tup ?_
      refine y_cons ?_
      refine y_var rfl ?_
      refine y_cons ?_
      refine y_dget2 ?_
      refine y_var rfl ?_
      refine g_isd ⟨_, d_here_, mg0⟩ z (fun a30 ea30 => ?_)
      refine y_cb ?_
      refine y_cons ?_
      refine y_var rfl ?_
      refine y_nil ?_
      refine y_tupL (LV.of d_counts_) z (fun p H Ho e z d31 => ?_)
      replace d_counts_ := D.mo d_counts_ e
      replace d_firsts_ := OD.mo d_firsts_ e
      replace d_here_ := OD.mo d_here_ e
      have es32 := es29.trans e
      refine y_c ?_
      refine g_dget2 ea30 ⟨_, d_here_, mg0⟩ z d31 (Dq.int _) (fun w d33 => ?_)
      obtain rfl := d_int d33
      refine y_nil ?_
      refine k_tupk (K := K) (x := (many_, ((valM here_ (⟨counts_⟩ : (Tp Int))).getD (0 : Int)))) z (by show 2 ≤ sizeLine; decide) _ rfl (DqAll.cons (Dq.int _) (DqAll.cons (Dq.int _) DqAll.nil)) (fun p H Ho e z d34 => ?_)
      replace d_counts_ := D.mo d_counts_ e
      replace d_firsts_ := OD.mo d_firsts_ e
      replace d_here_ := OD.mo d_here_ e
      have es35 := es32.trans e
      replace z : Zs amb _ _ := z.go [g_here_, g_firsts_] amb []
      exact (exP_ok (run_ret hw)) _ _ _ es35 z d34
def sp_how_many_cuts (K : PySem.W.Frag) (cl : Nat → Addr) : Sp := fun vs H Q E => ∃ (amb : Grp) (Ho : Hp) (v0 : V) (x0 : ((List Int) × (List (P4 Int Int Int Int)))) (v1 : V) (x1 : Int), vs = [v0, v1] ∧ Zs amb H Ho ∧ Z.D K Ho v0 x0 ∧ Z.D K Ho v1 x1 ∧ (m_how_many_cuts x0 x1).run (ExP (fun r => ∀ v H' Ho', Same Ho Ho' → Zs amb H' Ho' → Z.D K Ho' v r → Q v H') fun e => ∀ H' Ho', Same Ho Ho' → Zs amb H' Ho' → E (.ref (cl e.cls)) none H')
abbrev s_how_many_cuts : Stmt := topS 12
theorem sc_how_many_cuts : FnScope ["record", "most"] ["record", "most"] (defScope s_how_many_cuts) := ⟨rfl, rfl, rfl, by decide +kernel, rfl, by decide +kernel, by decide +kernel⟩
theorem ok_how_many_cuts {f : Addr} {fd : FuncData} (F : FunD K "how_many_cuts" "how_many_cuts" (defArgs s_how_many_cuts) (defBody s_how_many_cuts) (defScope s_how_many_cuts) [V.int 2000] [] f fd) {f_layers : Addr} {fd_layers : FuncData} (c_layers : Cal P w K mg base (L2.CX P w) "layers" ["record", "most"] 4 (sp_layers K cl) f_layers fd_layers) :
    FnOk P w K mg base (L2.CX P w) 5 f fd ["record", "most"] (sp_how_many_cuts K cl) := by
  refine F.okX sc_how_many_cuts (fun vs H Q E h => ?_) (fun cdv A outer s H vs Q E hr h => ?_)
  · obtain ⟨amb, Ho, v_record_, record_, v_most_, most_, rfl, _⟩ := h
    rfl
  · obtain ⟨amb, Ho, v_record_, record_, v_most_, most_, rfl, z, d_record_, d_most_, hw⟩ := h
    refine ⟨_, pss_cons (ps_ret (pe_ix (zix_tup (K := K) rfl) ((by exact (pe_callS c_layers.ok (hr.mono (by decide)) (by rfl) c_layers.g c_layers.kp c_layers.b (fun σ => passAt (takes_of rfl rfl rfl rfl) σ) (pa_cons (pv 0) (pa_cons (pv 1) (pa_nil)))))) (pe_int) (fun _ _ => rfl))) (pss_nil), ?_⟩
    obtain rfl := d_int d_most_
    refine y_ret ?_
    refine y_op ?_
    refine y_callS ?_
    refine y_cons ?_
    refine y_var rfl ?_
    refine y_cons ?_
    refine y_var rfl ?_
    refine y_nil ?_
    refine ⟨amb, _, _, _, _, _, rfl, z, d_record_, (Dq.int _), ?_⟩
    refine exm_mono (run_exm hw) (fun t1 hw v H Ho e z d2 => ?_) (fun er hw H Ho e z => ?_)
    rotate_left
    · exact exP_er (run_ret hw) _ _ ((Same.refl _).trans e) z
    replace d_record_ := D.mo d_record_ e
    have es4 := (Same.refl _).trans e
    refine y_c ?_
    refine y_ixT (y := t1.1) d2 z ⟨_, rfl, rfl⟩ (fun w d5 => ?_)
    first | obtain rfl := d_int d5 | cases d_int d5
    exact (exP_ok (run_ret hw)) _ _ _ es4 z (Dq.int _)
def sp_how_many_orders (K : PySem.W.Frag) (cl : Nat → Addr) : Sp := fun vs H Q E => ∃ (amb : Grp) (Ho : Hp) (v0 : V) (x0 : ((List Int) × (List (P4 Int Int Int Int)))) (v1 : V) (x1 : Int), vs = [v0, v1] ∧ Zs amb H Ho ∧ Z.D K Ho v0 x0 ∧ Z.D K Ho v1 x1 ∧ (m_how_many_orders x0 x1).run (ExP (fun r => ∀ v H' Ho', Same Ho Ho' → Zs amb H' Ho' → Z.D K Ho' v r → Q v H') fun e => ∀ H' Ho', Same Ho Ho' → Zs amb H' Ho' → E (.ref (cl e.cls)) none H')
abbrev s_how_many_orders : Stmt := topS 13
theorem sc_how_many_orders : FnScope ["record", "most"] ["record", "most"] (defScope s_how_many_orders) := ⟨rfl, rfl, rfl, by decide +kernel, rfl, by decide +kernel, by decide +kernel⟩
theorem ok_how_many_orders {f : Addr} {fd : FuncData} (F : FunD K "how_many_orders" "how_many_orders" (defArgs s_how_many_orders) (defBody s_how_many_orders) (defScope s_how_many_orders) [V.int 2000] [] f fd) {f_layers : Addr} {fd_layers : FuncData} (c_layers : Cal P w K mg base (L2.CX P w) "layers" ["record", "most"] 4 (sp_layers K cl) f_layers fd_layers) :
    FnOk P w K mg base (L2.CX P w) 5 f fd ["record", "most"] (sp_how_many_orders K cl) := by
  refine F.okX sc_how_many_orders (fun vs H Q E h => ?_) (fun cdv A outer s H vs Q E hr h => ?_)
  · obtain ⟨amb, Ho, v_record_, record_, v_most_, most_, rfl, _⟩ := h
    rfl
  · obtain ⟨amb, Ho, v_record_, record_, v_most_, most_, rfl, z, d_record_, d_most_, hw⟩ := h
    refine ⟨_, pss_cons (ps_ret (pe_ix (zix_tup (K := K) rfl) ((by exact (pe_callS c_layers.ok (hr.mono (by decide)) (by rfl) c_layers.g c_layers.kp c_layers.b (fun σ => passAt (takes_of rfl rfl rfl rfl) σ) (pa_cons (pv 0) (pa_cons (pv 1) (pa_nil)))))) (pe_int) (fun _ _ => rfl))) (pss_nil), ?_⟩
    obtain rfl := d_int d_most_
    refine y_ret ?_
    refine y_op ?_
    refine y_callS ?_
    refine y_cons ?_
    refine y_var rfl ?_
    refine y_cons ?_
    refine y_var rfl ?_
    refine y_nil ?_
    refine ⟨amb, _, _, _, _, _, rfl, z, d_record_, (Dq.int _), ?_⟩
    refine exm_mono (run_exm hw) (fun t1 hw v H Ho e z d2 => ?_) (fun er hw H Ho e z => ?_)
    rotate_left
    · exact exP_er (run_ret hw) _ _ ((Same.refl _).trans e) z
    replace d_record_ := D.mo d_record_ e
    have es4 := (Same.refl _).trans e
    refine y_c ?_
    refine y_ixT (y := t1.2) d2 z ⟨_, rfl, rfl⟩ (fun w d5 => ?_)
    first | obtain rfl := d_int d5 | cases d_int d5
    exact (exP_ok (run_ret hw)) _ _ _ es4 z (Dq.int _)
def sp_law_bag (K : PySem.W.Frag) (cl : Nat → Addr) : Sp := fun vs H Q E => ∃ (amb : Grp) (Ho : Hp) (v0 : V) (x0 : (List Int)), vs = [v0] ∧ Zs amb H Ho ∧ LV K amb Ho v0 x0 ∧ (m_law_bag x0).run fun r => ∀ v g H' Ho', Same Ho Ho' → Zs (g ++ amb) H' Ho' → OH K Ho' v r g → Q v H'
abbrev s_law_bag : Stmt := topS 15
theorem sc_law_bag : FnScope ["script", "total", "cell"] ["script"] (defScope s_law_bag) := ⟨rfl, rfl, rfl, by decide +kernel, rfl, by decide +kernel, by decide +kernel⟩
theorem ok_law_bag {f : Addr} {fd : FuncData} (F : Fun K "_law_bag" "_law_bag" s_law_bag f fd) (m_list : mg "list" = none) :
    FnOk P w K mg base CX0 1 f fd ["script"] (sp_law_bag K cl) := by
  refine F.ok sc_law_bag (fun vs H Q E h => ?_) (fun cdv A outer s H vs Q E hr h => ?_)
  · obtain ⟨amb, Ho, v_script_, script_, rfl, _⟩ := h
    rfl
  · obtain ⟨amb, Ho, v_script_, script_, rfl, z, d_script_, hw⟩ := h
    refine ⟨_, pss_cons (ps_set (i := 1) sc_law_bag.nd rfl (Or.inl rfl) (pe_int)) (pss_cons (ps_for PassesOwn.never rfl (zpi_list (K := K) rfl (pv 0)) (pg_name (i := 2) sc_law_bag.nd rfl (Or.inl rfl)) (pss_cons (ps_set (i := 1) sc_law_bag.nd rfl (Or.inl rfl) (pe_op op_mod (pe_op op_add (pe_op op_add (pe_op op_mulW (pv 1) (pe_int)) (pe_op op_mod (pv 2) (pe_int))) (pe_int)) (pe_int))) (pss_nil))) (pss_cons (ps_ret (pe_lst (pa_cons (pe_callTy (zlist (K := K) rfl) (by rfl) m_list (by decide +kernel) (pa_cons (pv 0) (pa_nil))) (pa_cons (pe_int) (pa_cons (pe_int) (pa_cons (pe_int) (pa_cons (pv 1) (pa_nil)))))))) (pss_nil))), ?_⟩
    refine l_asg (fun v => [_, some v, _]) (fun _ => rfl) ?_
    refine y_c ?_
    refine l_i hw (fun total_ hw => ?_)
    refine y_for ?_
    refine k_iList ?_
    refine y_var rfl ?_
    refine k_srcL (r0 := amb) (LV.sub d_script_ mgE) mgE z (fun J T => ?_)
    refine y_forL T hw (fun (s : Int) (σ : L2.St) (H Ho : Hp) => ∃ (y_cell_ : Option V), σ = [some v_script_, some (V.int s), y_cell_] ∧ Zs amb H Ho) ⟨_, rfl, z⟩ ?_ ?_ ?_ ?_
    · intro s σ H Ho hI
      obtain ⟨y_cell_, rfl, z⟩ := hI
      exact ⟨_, z, mgE⟩
    · intro s σ H Ho H2 Ho2 hI e t
      obtain ⟨y_cell_, rfl, z⟩ := hI
      exact ⟨_, rfl, t _ z⟩
    · intro cell_ v_cell_ s σ H Ho N e hI d_cell_ hw
      obtain ⟨total_, rfl⟩ : ∃ q, q = s := ⟨_, rfl⟩
      obtain ⟨y_cell_, rfl, z⟩ := hI
      replace d_script_ := LV.mo d_script_ e
      have es1 := (Same.refl _).trans e
      obtain rfl := d_int d_cell_
      refine y_gname (σ' := [some v_script_, some (V.int total_), some (V.int cell_)]) rfl ?_
      refine l_asg (fun v => [_, some v, _]) (fun _ => rfl) ?_
      refine y_op ?_
      refine y_op ?_
      refine y_op ?_
      refine y_op ?_
      refine y_var rfl ?_
      refine y_c ?_
      refine y_ig hw.1 ?_
      replace hw := (run_gd hw).2
      refine y_op ?_
      refine y_var rfl ?_
      refine y_c ?_
      refine y_ig (by decide) ?_
      refine y_i0 ?_
      refine y_c ?_
      refine y_i0 ?_
      refine y_c ?_
      refine y_ig (by decide) ?_
      refine l_i hw (fun total_ hw => ?_)
      exact (run_ret hw) _ _ _ (Same.refl _) ⟨_, rfl, z⟩
    intro s σ H Ho e hI hw
    obtain ⟨total_, rfl⟩ : ∃ q, q = s := ⟨_, rfl⟩
    obtain ⟨y_cell_, rfl, z⟩ := hI
    replace d_script_ := LV.mo d_script_ e
    have es2 := (Same.refl _).trans e
    refine y_ret ?_
    refine k_lst ?_
    refine y_cons ?_
    refine y_cb ?_
    refine y_cons ?_
    refine y_var rfl ?_
    refine y_nil ?_
    refine y_list (LV.sub d_script_ mgE) z (fun H p3 ws4 z d5 => ?_)
    replace z : Zs ([(p3, HO.lst ws4)] ++ amb) H Ho := z
    have o6 := OL.mk (p := p3) d5
    refine y_cons ?_
    refine y_c ?_
    refine y_cons ?_
    refine y_c ?_
    refine y_cons ?_
    refine y_c ?_
    refine y_cons ?_
    refine y_var rfl ?_
    refine y_nil ?_
    refine l_fr o6 z (fun Ho e z d7 => ?_)
    replace d_script_ := LV.mo d_script_ e
    have es8 := es2.trans e
    refine k_hlst (K := K) (x := (⟨script_, (0 : Int), (0 : Int), (0 : Int), total_⟩ : (H5 (List Int) Int Int Int Int))) z (DqAll.cons d7 (DqAll.cons (Dq.int _) (DqAll.cons (Dq.int _) (DqAll.cons (Dq.int _) (DqAll.cons (Dq.int _) DqAll.nil))))) (by show 5 ≤ sizeLine; decide) (fun H p11 g9 z o10 => ?_)
    exact (run_ret hw) _ _ _ _ es8 z o10
def sp_law_stir (K : PySem.W.Frag) (cl : Nat → Addr) : Sp := fun vs H Q E => ∃ (amb : Grp) (Ho : Hp) (v0 : V) (x0 : Int) (v1 : V) (x1 : Int), vs = [v0, v1] ∧ Zs amb H Ho ∧ Z.D K Ho v0 x0 ∧ Z.D K Ho v1 x1 ∧ (m_law_stir x0 x1).run fun r => ∀ v H' Ho', Same Ho Ho' → Zs amb H' Ho' → Z.D K Ho' v r → Q v H'
abbrev s_law_stir : Stmt := topS 16
theorem sc_law_stir : FnScope ["number", "place", "one", "two"] ["number", "place"] (defScope s_law_stir) := ⟨rfl, rfl, rfl, by decide +kernel, rfl, by decide +kernel, by decide +kernel⟩
theorem ok_law_stir {f : Addr} {fd : FuncData} (F : Fun K "_law_stir" "_law_stir" s_law_stir f fd) :
    FnOk P w K mg base CX0 1 f fd ["number", "place"] (sp_law_stir K cl) := by
  refine F.ok sc_law_stir (fun vs H Q E h => ?_) (fun cdv A outer s H vs Q E hr h => ?_)
  · obtain ⟨amb, Ho, v_number_, number_, v_place_, place_, rfl, _⟩ := h
    rfl
  · obtain ⟨amb, Ho, v_number_, number_, v_place_, place_, rfl, z, d_number_, d_place_, hw⟩ := h
    refine ⟨_, pss_cons (ps_set (i := 2) sc_law_stir.nd rfl (Or.inl rfl) (pe_op op_mod (pe_op op_add (pe_op op_add (pe_op op_mulW (pv 0) (pe_int)) (pe_op op_mulW (pv 1) (pe_int))) (pe_int)) (pe_int))) (pss_cons (ps_set (i := 3) sc_law_stir.nd rfl (Or.inl rfl) (pe_op op_mod (pe_op op_mulW (pv 2) (pv 2)) (pe_int))) (pss_cons (ps_ret (pe_op op_fdivW (pe_op op_mod (pe_op op_add (pe_op op_add (pe_op op_mulW (pv 3) (pe_int)) (pe_op op_mulW (pe_op op_mulW (pv 1) (pv 1)) (pe_int))) (pe_op op_fdivW (pv 2) (pe_int))) (pe_int)) (pe_int))) (pss_nil))), ?_⟩
    obtain rfl := d_int d_number_
    obtain rfl := d_int d_place_
    refine l_asg (fun v => [_, _, some v, _]) (fun _ => rfl) ?_
    refine y_op ?_
    refine y_op ?_
    refine y_op ?_
    refine y_op ?_
    refine y_var rfl ?_
    refine y_c ?_
    refine y_ig hw.1 ?_
    replace hw := (run_gd hw).2
    refine y_op ?_
    refine y_var rfl ?_
    refine y_c ?_
    refine y_ig hw.1 ?_
    replace hw := (run_gd hw).2
    refine y_i0 ?_
    refine y_c ?_
    refine y_i0 ?_
    refine y_c ?_
    refine y_ig (by decide) ?_
    refine l_i hw (fun one_ hw => ?_)
    refine l_asg (fun v => [_, _, _, some v]) (fun _ => rfl) ?_
    refine y_op ?_
    refine y_op ?_
    refine y_var rfl ?_
    refine y_var rfl ?_
    refine y_ig hw.1 ?_
    replace hw := (run_gd hw).2
    refine y_c ?_
    refine y_ig (by decide) ?_
    refine l_i hw (fun two_ hw => ?_)
    refine y_ret ?_
    refine y_op ?_
    refine y_op ?_
    refine y_op ?_
    refine y_op ?_
    refine y_op ?_
    refine y_var rfl ?_
    refine y_c ?_
    refine y_ig hw.1 ?_
    replace hw := (run_gd hw).2
    refine y_op ?_
    refine y_op ?_
    refine y_var rfl ?_
    refine y_var rfl ?_
    refine y_ig hw.1 ?_
    replace hw := (run_gd hw).2
    refine y_c ?_
    refine y_ig hw.1 ?_
    replace hw := (run_gd hw).2
    refine y_i0 ?_
    refine y_op ?_
    refine y_var rfl ?_
    refine y_c ?_
    refine y_ig hw.1 ?_
    replace hw := (run_gd hw).2
    refine y_i0 ?_
    refine y_c ?_
    refine y_ig (by decide) ?_
    refine y_c ?_
    refine y_ig hw.1 ?_
    replace hw := (run_gd hw).2
    exact (run_ret hw) _ _ _ (Same.refl _) z (Dq.int _)
def sp_law_draw (K : PySem.W.Frag) (cl : Nat → Addr) : Sp := fun vs H Q E => ∃ (amb : Grp) (Ho : Hp) (v0 : V) (x0 : (H5 (List Int) Int Int Int Int)) (g0 : Grp) (v1 : V) (x1 : Int), vs = [v0, v1] ∧ Zs (g0 ++ amb) H Ho ∧ OH K Ho v0 x0 g0 ∧ Z.D K Ho v1 x1 ∧ (m_law_draw x0 x1).run fun r => ∀ v h0 H' Ho', Same Ho Ho' → Zs (h0 ++ amb) H' Ho' → Z.D K Ho' v r.1 → OH K Ho' v0 r.2 h0 → Q v H'
abbrev s_law_draw : Stmt := topS 17
theorem sc_law_draw : FnScope ["bag", "many", "cell", "found"] ["bag", "many"] (defScope s_law_draw) := ⟨rfl, rfl, rfl, by decide +kernel, rfl, by decide +kernel, by decide +kernel⟩
theorem ok_law_draw {f : Addr} {fd : FuncData} (F : Fun K "_law_draw" "_law_draw" s_law_draw f fd) {f_law_stir : Addr} {fd_law_stir : FuncData} (c_law_stir : Cal P w K mg base CX0 "_law_stir" ["number", "place"] 1 (sp_law_stir K cl) f_law_stir fd_law_stir) (m_len : mg "len" = none) :
    FnOk P w K mg base CX0 2 f fd ["bag", "many"] (sp_law_draw K cl) := by
  refine F.ok sc_law_draw (fun vs H Q E h => ?_) (fun cdv A outer s H vs Q E hr h => ?_)
  · obtain ⟨amb, Ho, v_bag_, bag_, g_bag_, v_many_, many_, rfl, _⟩ := h
    rfl
  · obtain ⟨amb, Ho, v_bag_, bag_, g_bag_, v_many_, many_, rfl, z, d_bag_, d_many_, hw⟩ := h
    refine ⟨_, pss_cons (ps_if (pt_cmpR (op_eq) (pv 1) (pe_int) (nomark _)) (pss_cons (ps_ret (pe_int)) (pss_nil)) (pss_nil)) (pss_cons (ps_asg (pe_op op_add (pe_ix (zix_list (K := K) rfl) (pv 0) (pe_int) (fun _ _ => rfl)) (pe_int)) (pg_sub (pv 0) (pe_int) set_list)) (pss_cons (ps_if (PW.pt (pw_and (pt_cmpR (op_lt) (pe_ix (zix_list (K := K) rfl) (pv 0) (pe_int) (fun _ _ => rfl)) (pe_int) (nomark _)) (pw_and1 (pt_cmpR (op_eq) (pe_ix (zix_list (K := K) rfl) (pv 0) (pe_int) (fun _ _ => rfl)) (pe_callB (zlen (K := K) rfl) (by rfl) m_len (by decide +kernel) (pa_cons (pe_ix (zix_list (K := K) rfl) (pv 0) (pe_int) (fun _ _ => rfl)) (pa_nil))) (nomark _))))) (pss_cons (ps_ret (pe_op op_mod (pe_call c_law_stir.ok (hr.mono (by decide)) (by rfl) c_law_stir.g c_law_stir.kp c_law_stir.b .nil pass0 (pa_cons (pe_ix (zix_list (K := K) rfl) (pv 0) (pe_int) (fun _ _ => rfl)) (pa_cons (pe_ix (zix_list (K := K) rfl) (pv 0) (pe_int) (fun _ _ => rfl)) (pa_nil)))) (pv 1))) (pss_nil)) (pss_nil)) (pss_cons (ps_if (pt_cmpR (op_lt) (pe_ix (zix_list (K := K) rfl) (pv 0) (pe_int) (fun _ _ => rfl)) (pe_int) (nomark _)) (pss_cons (ps_set (i := 2) sc_law_draw.nd rfl (Or.inl rfl) (pe_ix (zix_list (K := K) rfl) (pe_ix (zix_list (K := K) rfl) (pv 0) (pe_int) (fun _ _ => rfl)) (pe_ix (zix_list (K := K) rfl) (pv 0) (pe_int) (fun _ _ => rfl)) (fun _ _ => rfl))) (pss_cons (ps_asg (pe_op op_add (pe_ix (zix_list (K := K) rfl) (pv 0) (pe_int) (fun _ _ => rfl)) (pe_int)) (pg_sub (pv 0) (pe_int) set_list)) (pss_cons (ps_if (pt_cmpR (op_lt) (pv 2) (pe_op op_pow (pe_int) (pe_int)) (nomark _)) (pss_cons (ps_ret (pe_op op_mod (pe_call c_law_stir.ok (hr.mono (by decide)) (by rfl) c_law_stir.g c_law_stir.kp c_law_stir.b .nil pass0 (pa_cons (pe_op op_mod (pv 2) (pe_int)) (pa_cons (pe_ix (zix_list (K := K) rfl) (pv 0) (pe_int) (fun _ _ => rfl)) (pa_nil)))) (pv 1))) (pss_nil)) (pss_nil)) (pss_cons (ps_asg (pe_op op_sub (pv 2) (pe_op op_pow (pe_int) (pe_int))) (pg_sub (pv 0) (pe_int) set_list)) (pss_nil))))) (pss_nil)) (pss_cons (ps_set (i := 3) sc_law_draw.nd rfl (Or.inl rfl) (pe_op op_mod (pe_ix (zix_list (K := K) rfl) (pv 0) (pe_int) (fun _ _ => rfl)) (pv 1))) (pss_cons (ps_asg (pe_op op_fdivW (pe_ix (zix_list (K := K) rfl) (pv 0) (pe_int) (fun _ _ => rfl)) (pv 1)) (pg_sub (pv 0) (pe_int) set_list)) (pss_cons (ps_ret (pv 3)) (pss_nil))))))), ?_⟩
    obtain rfl := d_int d_many_
    refine y_ifS ?_
    refine y_test ?_
    refine y_op ?_
    refine y_var rfl ?_
    refine y_c ?_
    refine y_eqi ?_
    refine ⟨_, rfl, ?_⟩
    refine y_cases hw (fun hb hw => ?_) (fun hb hw => ?_)
    · refine y_ret ?_
      refine y_c ?_
      exact (run_ret hw) _ _ _ _ (Same.refl _) z (Dq.int _) d_bag_
    · refine y_nxS ?_
      refine y_asgG ?_
      refine y_op ?_
      refine y_op ?_
      refine y_var rfl ?_
      refine y_c ?_
      refine h_ix (y := bag_.d) d_bag_ z rfl (fun w d1 => ?_)
      first | obtain rfl := d_int d1 | cases d_int d1
      refine y_c ?_
      refine y_i0 ?_
      refine y_gsub ?_
      refine y_var rfl ?_
      refine y_c ?_
      refine h_st (y := ({ bag_ with d := (bag_.d + (1 : Int)) } : (H5 (List Int) Int Int Int Int))) z d_bag_ (Dq.int _) rfl rfl (fun g_bag_ H z d_bag_ => ?_)
      refine h_nm hw d_bag_ (fun bag_ d_bag_ hw => ?_)
      refine y_ifS ?_
      refine y_and ?_
      refine y_test ?_
      refine y_op ?_
      refine y_op ?_
      refine y_var rfl ?_
      refine y_c ?_
      refine h_ix (y := bag_.c) d_bag_ z rfl (fun w d2 => ?_)
      first | obtain rfl := d_int d2 | cases d_int d2
      refine y_c ?_
      refine y_i0 ?_
      refine ⟨_, rfl, ?_⟩
      refine w_andJ hw (fun (s : Bool) (v : Bool) (H2 : Hp) => ∃ (Ho2 : Hp), Same Ho Ho2 ∧ Zs (g_bag_ ++ amb) H2 Ho2 ∧ v = s) (fun hb hw => ?_) (fun hb hw => ?_) ?_
      · refine y_test ?_
        refine y_op ?_
        refine y_op ?_
        refine y_var rfl ?_
        refine y_c ?_
        refine h_ix (y := bag_.b) d_bag_ z rfl (fun w d3 => ?_)
        first | obtain rfl := d_int d3 | cases d_int d3
        refine y_cb ?_
        refine y_cons ?_
        refine y_op ?_
        refine y_var rfl ?_
        refine y_c ?_
        refine h_ix (y := bag_.a) d_bag_ z rfl (fun w d4 => ?_)
        refine y_nil ?_
        refine y_len (LV.of d4) z ?_
        refine y_eqi ?_
        refine ⟨_, rfl, ?_⟩
        exact (run_ret hw) _ _ ⟨_, (Same.refl _), z, rfl⟩
      · exact (run_ret hw) _ _ ⟨_, (Same.refl _), z, rfl⟩
      rintro t5 v H ⟨Ho, e, z, rfl⟩ hw
      replace d_bag_ := OH.mo d_bag_ e
      have es8 := (Same.refl _).trans e
      refine y_cases hw (fun hb hw => ?_) (fun hb hw => ?_)
      · refine y_ret ?_
        refine y_op ?_
        refine y_call ?_
        refine y_cons ?_
        refine y_op ?_
        refine y_var rfl ?_
        refine y_c ?_
        refine h_ix (y := bag_.e) d_bag_ z rfl (fun w d9 => ?_)
        first | obtain rfl := d_int d9 | cases d_int d9
        refine y_cons ?_
        refine y_op ?_
        refine y_var rfl ?_
        refine y_c ?_
        refine h_ix (y := bag_.d) d_bag_ z rfl (fun w d10 => ?_)
        first | obtain rfl := d_int d10 | cases d_int d10
        refine y_nil ?_
        refine ⟨(g_bag_ ++ amb), _, _, _, _, _, rfl, z, (Dq.int _), (Dq.int _), ?_⟩
        refine run_mono3 hw (fun t11 hw v H Ho e z d12 => ?_)
        replace d_bag_ := OH.mo d_bag_ e
        have es14 := es8.trans e
        first | obtain rfl := d_int d12 | cases d_int d12
        refine y_var rfl ?_
        refine y_ig hw.1 ?_
        replace hw := (run_gd hw).2
        exact (run_ret hw) _ _ _ _ es14 z (Dq.int _) d_bag_
      · refine y_nxS ?_
        refine y_ifS ?_
        refine y_test ?_
        refine y_op ?_
        refine y_op ?_
        refine y_var rfl ?_
        refine y_c ?_
        refine h_ix (y := bag_.c) d_bag_ z rfl (fun w d15 => ?_)
        first | obtain rfl := d_int d15 | cases d_int d15
        refine y_c ?_
        refine y_i0 ?_
        refine ⟨_, rfl, ?_⟩
        refine w_ifC hw (fun (s : (H5 (List Int) Int Int Int Int)) (σ : L2.St) (H : Hp) => ∃ Ho2, Same Ho Ho2 ∧ (fun (s : (H5 (List Int) Int Int Int Int)) (σ : L2.St) (H Ho : Hp) => ∃ (g_bag_ : Grp) (y_cell_ : Option V), σ = [some v_bag_, some (V.int many_), y_cell_, none] ∧ Zs (g_bag_ ++ amb) H Ho ∧ OH K Ho v_bag_ s g_bag_) s σ H Ho2) (fun hb hw => ?_) (fun hb hw => ?_) ?_
        · refine l_asg (fun v => [_, _, some v, _]) (fun _ => rfl) ?_
          refine y_op ?_
          refine y_op ?_
          refine y_var rfl ?_
          refine y_c ?_
          refine h_ix (y := bag_.a) d_bag_ z rfl (fun w d16 => ?_)
          refine y_op ?_
          refine y_var rfl ?_
          refine y_c ?_
          refine h_ix (y := bag_.b) d_bag_ z rfl (fun w d17 => ?_)
          first | obtain rfl := d_int d17 | cases d_int d17
          refine y_ixL (LV.of d16) z hw (fun t18 w d19 hw => ?_)
          first | obtain rfl := d_int d19 | cases d_int d19
          refine l_i hw (fun cell_ hw => ?_)
          refine y_asgG ?_
          refine y_op ?_
          refine y_op ?_
          refine y_var rfl ?_
          refine y_c ?_
          refine h_ix (y := bag_.b) d_bag_ z rfl (fun w d20 => ?_)
          first | obtain rfl := d_int d20 | cases d_int d20
          refine y_c ?_
          refine y_i0 ?_
          refine y_gsub ?_
          refine y_var rfl ?_
          refine y_c ?_
          refine h_st (y := ({ bag_ with b := (bag_.b + (1 : Int)) } : (H5 (List Int) Int Int Int Int))) z d_bag_ (Dq.int _) rfl rfl (fun g_bag_ H z d_bag_ => ?_)
          refine h_nm hw d_bag_ (fun bag_ d_bag_ hw => ?_)
          refine y_ifS ?_
          refine y_test ?_
          refine y_op ?_
          refine y_var rfl ?_
          refine y_op ?_
          refine y_c ?_
          refine y_c ?_
          refine y_ig hw.1 ?_
          replace hw := (run_gd hw).2
          refine y_i0 ?_
          refine ⟨_, rfl, ?_⟩
          refine y_cases hw (fun hb hw => ?_) (fun hb hw => ?_)
          · refine y_ret ?_
            refine y_op ?_
            refine y_call ?_
            refine y_cons ?_
            refine y_op ?_
            refine y_var rfl ?_
            refine y_c ?_
            refine y_ig (by decide) ?_
            refine y_cons ?_
            refine y_op ?_
            refine y_var rfl ?_
            refine y_c ?_
            refine h_ix (y := bag_.d) d_bag_ z rfl (fun w d21 => ?_)
            first | obtain rfl := d_int d21 | cases d_int d21
            refine y_nil ?_
            refine ⟨(g_bag_ ++ amb), _, _, _, _, _, rfl, z, (Dq.int _), (Dq.int _), ?_⟩
            refine run_mono3 hw (fun t22 hw v H Ho e z d23 => ?_)
            replace d_bag_ := OH.mo d_bag_ e
            have es25 := (Same.refl _).trans e
            first | obtain rfl := d_int d23 | cases d_int d23
            refine y_var rfl ?_
            refine y_ig hw.1 ?_
            replace hw := (run_gd hw).2
            exact (ctl_rt (run_ret hw)) _ _ _ _ (es8.trans es25) z (Dq.int _) d_bag_
          · refine y_nxS ?_
            refine y_asgG ?_
            refine y_op ?_
            refine y_var rfl ?_
            refine y_op ?_
            refine y_c ?_
            refine y_c ?_
            refine y_ig hw.1 ?_
            replace hw := (run_gd hw).2
            refine y_i0 ?_
            refine y_gsub ?_
            refine y_var rfl ?_
            refine y_c ?_
            refine h_st (y := ({ bag_ with c := (cell_ - ((10 : Int) ^ ((18 : Int)).toNat)) } : (H5 (List Int) Int Int Int Int))) z d_bag_ (Dq.int _) rfl rfl (fun g_bag_ H z d_bag_ => ?_)
            refine h_nm hw d_bag_ (fun bag_ d_bag_ hw => ?_)
            exact (ctl_nx (run_ret hw)) _ _ ⟨_, (Same.refl _), ⟨_, _, rfl, z, d_bag_⟩⟩
        · refine y_nxS ?_
          exact (ctl_nx (run_ret hw)) _ _ ⟨_, (Same.refl _), ⟨_, _, rfl, z, d_bag_⟩⟩
        rintro bag_ σ H ⟨Ho, e, g_bag_, y_cell_, rfl, z, d_bag_⟩ hw
        have es26 := es8.trans e
        refine l_asg (fun v => [_, _, _, some v]) (fun _ => rfl) ?_
        refine y_op ?_
        refine y_op ?_
        refine y_var rfl ?_
        refine y_c ?_
        refine h_ix (y := bag_.c) d_bag_ z rfl (fun w d27 => ?_)
        first | obtain rfl := d_int d27 | cases d_int d27
        refine y_var rfl ?_
        refine y_ig hw.1 ?_
        replace hw := (run_gd hw).2
        refine l_i hw (fun found_ hw => ?_)
        refine y_asgG ?_
        refine y_op ?_
        refine y_op ?_
        refine y_var rfl ?_
        refine y_c ?_
        refine h_ix (y := bag_.c) d_bag_ z rfl (fun w d28 => ?_)
        first | obtain rfl := d_int d28 | cases d_int d28
        refine y_var rfl ?_
        refine y_ig hw.1 ?_
        replace hw := (run_gd hw).2
        refine y_gsub ?_
        refine y_var rfl ?_
        refine y_c ?_
        refine h_st (y := ({ bag_ with c := (bag_.c / many_) } : (H5 (List Int) Int Int Int Int))) z d_bag_ (Dq.int _) rfl rfl (fun g_bag_ H z d_bag_ => ?_)
        refine h_nm hw d_bag_ (fun bag_ d_bag_ hw => ?_)
        refine y_ret ?_
        refine y_var rfl ?_
        exact (run_ret hw) _ _ _ _ es26 z (Dq.int _) d_bag_
def sp_law_counts (K : PySem.W.Frag) (cl : Nat → Addr) : Sp := fun vs H Q E => ∃ (amb : Grp) (Ho : Hp) (v0 : V) (x0 : (H5 (List Int) Int Int Int Int)) (g0 : Grp) (v1 : V) (x1 : Int), vs = [v0, v1] ∧ Zs (g0 ++ amb) H Ho ∧ OH K Ho v0 x0 g0 ∧ Z.D K Ho v1 x1 ∧ (m_law_counts x0 x1).run fun r => ∀ v h0 H' Ho', Same Ho Ho' → Zs (h0 ++ amb) H' Ho' → Z.D K Ho' v r.1 → OH K Ho' v0 r.2 h0 → Q v H'
abbrev s_law_counts : Stmt := topS 18
theorem sc_law_counts : FnScope ["bag", "great", "hand", "few", "hands", "top"] ["bag", "great"] (defScope s_law_counts) := ⟨rfl, rfl, rfl, by decide +kernel, rfl, by decide +kernel, by decide +kernel⟩
theorem ok_law_counts {f : Addr} {fd : FuncData} (F : Fun K "_law_counts" "_law_counts" s_law_counts f fd) {f_law_draw : Addr} {fd_law_draw : FuncData} (c_law_draw : Cal P w K mg base CX0 "_law_draw" ["bag", "many"] 2 (sp_law_draw K cl) f_law_draw fd_law_draw) (m_range : mg "range" = none) (m_max : mg "max" = none) :
    FnOk P w K mg base CX0 3 f fd ["bag", "great"] (sp_law_counts K cl) := by
  refine F.ok sc_law_counts (fun vs H Q E h => ?_) (fun cdv A outer s H vs Q E hr h => ?_)
  · obtain ⟨amb, Ho, v_bag_, bag_, g_bag_, v_great_, great_, rfl, _⟩ := h
    rfl
  · obtain ⟨amb, Ho, v_bag_, bag_, g_bag_, v_great_, great_, rfl, z, d_bag_, d_great_, hw⟩ := h
    refine ⟨_, pss_cons (ps_if (pt_cmpR (op_eq) (pv 1) (pe_int) (nomark _)) (pss_cons (ps_ret (pe_lc (own := [("hand", 2)]) rfl sc_law_counts.nd (pi_range1 (by rfl) m_range (pa_cons (pe_ix (zix_list (K := K) rfl) (pe_lst (pa_cons (pe_int) (pa_cons (pe_int) (pa_cons (pe_int) (pa_cons (pe_int) (pa_cons (pe_int) (pa_cons (pe_int) (pa_cons (pe_int) (pa_nil))))))))) (pe_call c_law_draw.ok (hr.mono (by decide)) (by rfl) c_law_draw.g c_law_draw.kp c_law_draw.b .nil pass0 (pa_cons (pv 0) (pa_cons (pe_int) (pa_nil)))) (fun _ _ => rfl)) (pa_nil))) (blkOk_by (N := ["bag", "great", "hand", "few", "hands", "top"]) (sc := defScope s_law_counts) (by decide +kernel)) (fun _ _ _ _ _ => pg_name (i := 2) sc_law_counts.nd rfl (Or.inl rfl)) (fun _ _ _ _ _ => pts_nil) (fun _ _ _ _ _ => pe_call c_law_draw.ok (hr.mono (by decide)) (by rfl) c_law_draw.g c_law_draw.kp c_law_draw.b .nil pass0 (pa_cons (pv 0) (pa_cons (pe_int) (pa_nil)))))) (pss_nil)) (pss_nil)) (pss_cons (ps_set (i := 3) sc_law_counts.nd rfl (Or.inl rfl) (pe_call c_law_draw.ok (hr.mono (by decide)) (by rfl) c_law_draw.g c_law_draw.kp c_law_draw.b .nil pass0 (pa_cons (pv 0) (pa_cons (pe_int) (pa_nil))))) (pss_cons (ps_set (i := 4) sc_law_counts.nd rfl (Or.inl rfl) (pe_op op_sub (pe_int) (pe_call c_law_draw.ok (hr.mono (by decide)) (by rfl) c_law_draw.g c_law_draw.kp c_law_draw.b .nil pass0 (pa_cons (pv 0) (pa_cons (pe_int) (pa_nil)))))) (pss_cons (ps_set (i := 5) sc_law_counts.nd rfl (Or.inr rfl) (pe_ix (zix_list (K := K) rfl) (pe_lst (pa_cons (pe_op op_add (pe_op op_fdivW (pe_int) (pe_callB (call_max2 rfl) (by rfl) m_max (by decide +kernel) (pa_cons (pe_int) (pa_cons (pv 4) (pa_nil))))) (pe_int)) (pa_cons (pe_int) (pa_nil)))) (pv 3) (fun _ _ => rfl))) (pss_cons (ps_ret (pe_lc (own := [("hand", 2)]) rfl sc_law_counts.nd (pi_range1 (by rfl) m_range (pa_cons (pv 4) (pa_nil))) (blkOk_by (N := ["bag", "great", "hand", "few", "hands", "top"]) (sc := defScope s_law_counts) (by decide +kernel)) (fun _ _ _ _ _ => pg_name (i := 2) sc_law_counts.nd rfl (Or.inl rfl)) (fun _ _ _ _ _ => pts_nil) (fun _ _ _ _ _ => pe_call c_law_draw.ok (hr.mono (by decide)) (by rfl) c_law_draw.g c_law_draw.kp c_law_draw.b .nil pass0 (pa_cons (pv 0) (pa_cons (pv 5) (pa_nil)))))) (pss_nil))))), ?_⟩
    obtain rfl := d_int d_great_
    refine y_ifS ?_
    refine y_test ?_
    refine y_op ?_
    refine y_var rfl ?_
    refine y_c ?_
    refine y_eqi ?_
    refine ⟨_, rfl, ?_⟩
    refine y_cases hw (fun hb hw => ?_) (fun hb hw => ?_)
    · refine y_ret ?_
      refine y_lc ?_
      refine k_iR1 ?_
      refine y_cons ?_
      refine y_op ?_
      refine k_lst ?_
      refine y_cons ?_
      refine y_c ?_
      refine y_cons ?_
      refine y_c ?_
      refine y_cons ?_
      refine y_c ?_
      refine y_cons ?_
      refine y_c ?_
      refine y_cons ?_
      refine y_c ?_
      refine y_cons ?_
      refine y_c ?_
      refine y_cons ?_
      refine y_c ?_
      refine y_nil ?_
      refine k_lstk (K := K) (xs := ([(3 : Int), (2 : Int), (4 : Int), (2 : Int), (3 : Int), (1 : Int), (0 : Int)] : (List Int))) z (DqAll.cons (Dq.int _) (DqAll.cons (Dq.int _) (DqAll.cons (Dq.int _) (DqAll.cons (Dq.int _) (DqAll.cons (Dq.int _) (DqAll.cons (Dq.int _) (DqAll.cons (Dq.int _) DqAll.nil))))))) (by show 7 ≤ sizeLine; decide) (fun H p1 ws2 z d3 => ?_)
      replace z : Zs ([(p1, HO.lst ws2)] ++ (g_bag_ ++ amb)) H Ho := z
      have o4 := OL.mk (p := p1) d3
      refine y_call ?_
      refine y_cons ?_
      refine y_var rfl ?_
      refine y_cons ?_
      refine y_c ?_
      refine y_nil ?_
      replace z : Zs (g_bag_ ++ ([(p1, HO.lst ws2)] ++ amb)) _ _ := z.go [[(p1, HO.lst ws2)], g_bag_] amb [1, 0]
      refine ⟨([(p1, HO.lst ws2)] ++ amb), _, _, _, _, _, _, rfl, z, d_bag_, (Dq.int _), ?_⟩
      refine run_mono2 hw (fun t5 bag_ hw v g_bag_ H Ho e z d6 d_bag_ => ?_)
      replace d6 : Z.D K Ho v t5 := d6
      replace d_bag_ : OH K Ho v_bag_ bag_ g_bag_ := d_bag_
      replace o4 := OL.mo o4 e
      have es8 := (Same.refl _).trans e
      first | obtain rfl := d_int d6 | cases d_int d6
      refine y_ixL (OL.lv o4 (mgS mg0)) z hw (fun t9 w d10 hw => ?_)
      first | obtain rfl := d_int d10 | cases d_int d10
      refine y_nil ?_
      refine k_srcR1 (K := K) (Ho := Ho) hw.1 (fun J T => ?_)
      replace hw := (run_gd hw).2
      refine y_lcS z T hw (fun (r11 : Addr × HO) (s : (H5 (List Int) Int Int Int Int)) (H2 Ho2 : Hp) => ∃ (g_bag_ : Grp), OH K Ho2 v_bag_ s g_bag_ ∧ Zs ([r11] ++ (g_bag_ ++ ([(p1, HO.lst ws2)] ++ amb))) H2 Ho2) (fun r H z => ⟨_, d_bag_, z⟩) ?_ ?_ ?_ ?_ ?_
      · rintro r s H Ho ⟨g_bag_, d_bag_, z⟩
        exact ⟨_, z, fun r m => mgN r m⟩
      · rintro r s H Ho H2 Ho2 ⟨g_bag_, d_bag_, z⟩ e t
        exact ⟨_, OH.mo d_bag_ e, t _ z⟩
      · rintro p o o' s H Ho hn ⟨g_bag_, d_bag_, z⟩
        exact ⟨_, d_bag_, Zs.put z hn⟩
      · intro r11 hand_ v_hand_ bag_ H Ho N N' e hI d_hand_ hw
        obtain ⟨g_bag_, d_bag_, z⟩ := hI
        have es12 := es8.trans e
        obtain rfl := d_int d_hand_
        refine y_gname (σ' := [some v_bag_, some (V.int great_), some (V.int hand_), none, none, none]) rfl ?_
        refine ⟨rfl, ?_⟩
        refine y_yes (w_t ?_)
        refine y_call ?_
        refine y_cons ?_
        refine y_var rfl ?_
        refine y_cons ?_
        refine y_c ?_
        refine y_nil ?_
        replace z : Zs (g_bag_ ++ ([r11] ++ ([(p1, HO.lst ws2)] ++ amb))) _ _ := z.go [[r11], g_bag_, [(p1, HO.lst ws2)]] amb [1, 0, 2]
        refine ⟨([r11] ++ ([(p1, HO.lst ws2)] ++ amb)), _, _, _, _, _, _, rfl, z, d_bag_, (Dq.int _), ?_⟩
        refine run_mono2 hw (fun t13 bag_ hw v g_bag_ H Ho e z d14 d_bag_ => ?_)
        replace d14 : Z.D K Ho v t13 := d14
        replace d_bag_ : OH K Ho v_bag_ bag_ g_bag_ := d_bag_
        have es16 := (Same.refl _).trans e
        first | obtain rfl := d_int d14 | cases d_int d14
        replace z : Zs ([r11] ++ (g_bag_ ++ ([(p1, HO.lst ws2)] ++ amb))) _ _ := z.go [g_bag_, [r11], [(p1, HO.lst ws2)]] amb [1, 0, 2]
        exact (run_ret hw) _ _ _ es16 ⟨_, d_bag_, z⟩ (Dq.int _)
      rintro t20 bag_ p17 ws18 H Ho e ⟨g_bag_, d_bag_, z⟩ d19 hw
      have es21 := es8.trans e
      replace z : Zs ([(p17, HO.lst ws18)] ++ (g_bag_ ++ ([(p1, HO.lst ws2)] ++ amb))) H Ho := z
      have o22 := OL.mk (p := p17) d19
      refine l_fr o22 z (fun Ho e z d23 => ?_)
      replace d_bag_ := OH.mo d_bag_ e
      have es24 := es21.trans e
      replace z : Zs (g_bag_ ++ amb) _ _ := z.go [g_bag_, [(p1, HO.lst ws2)]] amb [0]
      exact (run_ret hw) _ _ _ _ es24 z d23 d_bag_
    · refine y_nxS ?_
      refine l_asg (fun v => [_, _, _, some v, _, _]) (fun _ => rfl) ?_
      refine y_call ?_
      refine y_cons ?_
      refine y_var rfl ?_
      refine y_cons ?_
      refine y_c ?_
      refine y_nil ?_
      refine ⟨amb, _, _, _, _, _, _, rfl, z, d_bag_, (Dq.int _), ?_⟩
      refine run_mono2 hw (fun t25 bag_ hw v g_bag_ H Ho e z d26 d_bag_ => ?_)
      replace d26 : Z.D K Ho v t25 := d26
      replace d_bag_ : OH K Ho v_bag_ bag_ g_bag_ := d_bag_
      have es28 := (Same.refl _).trans e
      first | obtain rfl := d_int d26 | cases d_int d26
      refine l_i hw (fun few_ hw => ?_)
      refine l_asg (fun v => [_, _, _, _, some v, _]) (fun _ => rfl) ?_
      refine y_op ?_
      refine y_c ?_
      refine y_call ?_
      refine y_cons ?_
      refine y_var rfl ?_
      refine y_cons ?_
      refine y_c ?_
      refine y_nil ?_
      refine ⟨amb, _, _, _, _, _, _, rfl, z, d_bag_, (Dq.int _), ?_⟩
      refine run_mono2 hw (fun t29 bag_ hw v g_bag_ H Ho e z d30 d_bag_ => ?_)
      replace d30 : Z.D K Ho v t29 := d30
      replace d_bag_ : OH K Ho v_bag_ bag_ g_bag_ := d_bag_
      have es32 := es28.trans e
      first | obtain rfl := d_int d30 | cases d_int d30
      refine y_i0 ?_
      refine l_i hw (fun hands_ hw => ?_)
      refine l_asg (fun v => [_, _, _, _, _, some v]) (fun _ => rfl) ?_
      refine y_op ?_
      refine k_lst ?_
      refine y_cons ?_
      refine y_op ?_
      refine y_op ?_
      refine y_c ?_
      refine y_cb ?_
      refine y_cons ?_
      refine y_c ?_
      refine y_cons ?_
      refine y_var rfl ?_
      refine y_nil ?_
      refine ⟨_, _, rfl, ?_⟩
      refine y_ig hw.1 ?_
      replace hw := (run_gd hw).2
      refine y_c ?_
      refine y_i0 ?_
      refine y_cons ?_
      refine y_c ?_
      refine y_nil ?_
      refine k_lstk (K := K) (xs := ([(((300 : Int) / (if hands_ > (1 : Int) then hands_ else (1 : Int))) + (1 : Int)), (4 : Int)] : (List Int))) z (DqAll.cons (Dq.int _) (DqAll.cons (Dq.int _) DqAll.nil)) (by show 2 ≤ sizeLine; decide) (fun H p33 ws34 z d35 => ?_)
      replace z : Zs ([(p33, HO.lst ws34)] ++ (g_bag_ ++ amb)) H Ho := z
      have o36 := OL.mk (p := p33) d35
      refine y_var rfl ?_
      refine y_ixL (OL.lv o36 mg0) z hw (fun t37 w d38 hw => ?_)
      first | obtain rfl := d_int d38 | cases d_int d38
      refine l_i hw (fun top_ hw => ?_)
      replace z : Zs (g_bag_ ++ amb) _ _ := z.go [[(p33, HO.lst ws34)], g_bag_] amb [1]
      refine y_ret ?_
      refine y_lc ?_
      refine k_iR1 ?_
      refine y_cons ?_
      refine y_var rfl ?_
      refine y_nil ?_
      refine k_srcR1 (K := K) (Ho := Ho) hw.1 (fun J T => ?_)
      replace hw := (run_gd hw).2
      refine y_lcS z T hw (fun (r39 : Addr × HO) (s : (H5 (List Int) Int Int Int Int)) (H2 Ho2 : Hp) => ∃ (g_bag_ : Grp), OH K Ho2 v_bag_ s g_bag_ ∧ Zs ([r39] ++ (g_bag_ ++ amb)) H2 Ho2) (fun r H z => ⟨_, d_bag_, z⟩) ?_ ?_ ?_ ?_ ?_
      · rintro r s H Ho ⟨g_bag_, d_bag_, z⟩
        exact ⟨_, z, fun r m => mgN r m⟩
      · rintro r s H Ho H2 Ho2 ⟨g_bag_, d_bag_, z⟩ e t
        exact ⟨_, OH.mo d_bag_ e, t _ z⟩
      · rintro p o o' s H Ho hn ⟨g_bag_, d_bag_, z⟩
        exact ⟨_, d_bag_, Zs.put z hn⟩
      · intro r39 hand_ v_hand_ bag_ H Ho N N' e hI d_hand_ hw
        obtain ⟨g_bag_, d_bag_, z⟩ := hI
        have es40 := es32.trans e
        obtain rfl := d_int d_hand_
        refine y_gname (σ' := [some v_bag_, some (V.int great_), some (V.int hand_), some (V.int few_), some (V.int hands_), some (V.int top_)]) rfl ?_
        refine ⟨rfl, ?_⟩
        refine y_yes (w_t ?_)
        refine y_call ?_
        refine y_cons ?_
        refine y_var rfl ?_
        refine y_cons ?_
        refine y_var rfl ?_
        refine y_nil ?_
        replace z : Zs (g_bag_ ++ ([r39] ++ amb)) _ _ := z.go [[r39], g_bag_] amb [1, 0]
        refine ⟨([r39] ++ amb), _, _, _, _, _, _, rfl, z, d_bag_, (Dq.int _), ?_⟩
        refine run_mono2 hw (fun t41 bag_ hw v g_bag_ H Ho e z d42 d_bag_ => ?_)
        replace d42 : Z.D K Ho v t41 := d42
        replace d_bag_ : OH K Ho v_bag_ bag_ g_bag_ := d_bag_
        have es44 := (Same.refl _).trans e
        first | obtain rfl := d_int d42 | cases d_int d42
        replace z : Zs ([r39] ++ (g_bag_ ++ amb)) _ _ := z.go [g_bag_, [r39]] amb [1, 0]
        exact (run_ret hw) _ _ _ es44 ⟨_, d_bag_, z⟩ (Dq.int _)
      rintro t48 bag_ p45 ws46 H Ho e ⟨g_bag_, d_bag_, z⟩ d47 hw
      have es49 := es32.trans e
      replace z : Zs ([(p45, HO.lst ws46)] ++ (g_bag_ ++ amb)) H Ho := z
      have o50 := OL.mk (p := p45) d47
      refine l_fr o50 z (fun Ho e z d51 => ?_)
      replace d_bag_ := OH.mo d_bag_ e
      have es52 := es49.trans e
      exact (run_ret hw) _ _ _ _ es52 z d51 d_bag_
def sp_law_order (K : PySem.W.Frag) (cl : Nat → Addr) : Sp := fun vs H Q E => ∃ (amb : Grp) (Ho : Hp) (v0 : V) (x0 : (H5 (List Int) Int Int Int Int)) (g0 : Grp) (v1 : V) (x1 : (List Int)), vs = [v0, v1] ∧ Zs (g0 ++ amb) H Ho ∧ OH K Ho v0 x0 g0 ∧ LV K amb Ho v1 x1 ∧ (m_law_order x0 x1).run fun r => ∀ v h0 H' Ho', Same Ho Ho' → Zs (h0 ++ amb) H' Ho' → Z.D K Ho' v r.1 → OH K Ho' v0 r.2 h0 → Q v H'
abbrev s_law_order : Stmt := topS 19
theorem sc_law_order : FnScope ["bag", "counts", "left", "order", "step", "some", "hand"] ["bag", "counts"] (defScope s_law_order) := ⟨rfl, rfl, rfl, by decide +kernel, rfl, by decide +kernel, by decide +kernel⟩
theorem ok_law_order {f : Addr} {fd : FuncData} (F : Fun K "_law_order" "_law_order" s_law_order f fd) {f_law_draw : Addr} {fd_law_draw : FuncData} (c_law_draw : Cal P w K mg base CX0 "_law_draw" ["bag", "many"] 2 (sp_law_draw K cl) f_law_draw fd_law_draw) (m_list : mg "list" = none) (m_sum : mg "sum" = none) (m_range : mg "range" = none) (m_len : mg "len" = none) :
    FnOk P w K mg base CX0 3 f fd ["bag", "counts"] (sp_law_order K cl) := by
  refine F.ok sc_law_order (fun vs H Q E h => ?_) (fun cdv A outer s H vs Q E hr h => ?_)
  · obtain ⟨amb, Ho, v_bag_, bag_, g_bag_, v_counts_, counts_, rfl, _⟩ := h
    rfl
  · obtain ⟨amb, Ho, v_bag_, bag_, g_bag_, v_counts_, counts_, rfl, z, d_bag_, d_counts_, hw⟩ := h
    refine ⟨_, pss_cons (ps_set (i := 2) sc_law_order.nd rfl (Or.inr rfl) (pe_callTy (zlist (K := K) rfl) (by rfl) m_list (by decide +kernel) (pa_cons (pv 1) (pa_nil)))) (pss_cons (ps_set (i := 3) sc_law_order.nd rfl (Or.inl rfl) (pe_lst (pa_nil))) (pss_cons (ps_for PassesOwn.never rfl (pi_range1 (by rfl) m_range (pa_cons (pe_callB (zsum (K := K) rfl rfl) (by rfl) m_sum (by decide +kernel) (pa_cons (pv 1) (pa_nil))) (pa_nil))) (pg_name (i := 4) sc_law_order.nd rfl (Or.inl rfl)) (pss_cons (ps_setLc (i := 5) (own := [("hand", 6)]) rfl sc_law_order.nd rfl rfl (sw_true rfl rfl rfl (by decide +kernel)) (pi_range1 (by rfl) m_range (pa_cons (pe_callB (zlen (K := K) rfl) (by rfl) m_len (by decide +kernel) (pa_cons (pv 2) (pa_nil))) (pa_nil))) (blkOk_by (N := ["bag", "counts", "left", "order", "step", "some", "hand"]) (sc := defScope s_law_order) (by decide +kernel)) (fun _ _ _ _ _ => pg_name (i := 6) sc_law_order.nd rfl (Or.inl rfl)) (fun _ _ _ _ _ => pts_one (pt_cmpR (op_gt) (pe_ix (zix_list (K := K) rfl) (pv 2) (pv 6) (fun _ _ => rfl)) (pe_int) (nomark _))) (fun _ _ _ _ _ => pv 6)) (pss_cons (ps_expr (pe_bm PySem.F.plainAttrs_list PySem.F.slot_list_append PySem.F.type_list_append mt_append (pv 3) (pa_cons (pe_ix (zix_list (K := K) rfl) (pv 5) (pe_call c_law_draw.ok (hr.mono (by decide)) (by rfl) c_law_draw.g c_law_draw.kp c_law_draw.b .nil pass0 (pa_cons (pv 0) (pa_cons (pe_callB (zlen (K := K) rfl) (by rfl) m_len (by decide +kernel) (pa_cons (pv 5) (pa_nil))) (pa_nil)))) (fun _ _ => rfl)) (pa_nil)))) (pss_cons (ps_asg (pe_op op_sub (pe_ix (zix_list (K := K) rfl) (pv 2) (pe_ix (zix_list (K := K) rfl) (pv 3) (pe_un un_neg (pe_int)) (fun _ _ => rfl)) (fun _ _ => rfl)) (pe_int)) (pg_sub (pv 2) (pe_ix (zix_list (K := K) rfl) (pv 3) (pe_un un_neg (pe_int)) (fun _ _ => rfl)) set_list)) (pss_nil))))) (pss_cons (ps_ret (pv 3)) (pss_nil)))), ?_⟩
    refine l_asg (fun v => [_, _, some v, _, _, _, _]) (fun _ => rfl) ?_
    refine y_cb ?_
    refine y_cons ?_
    refine y_var rfl ?_
    refine y_nil ?_
    refine y_list (LV.sub d_counts_ (mgS mgE)) z (fun H p1 ws2 z d3 => ?_)
    replace z : Zs ([(p1, HO.lst ws2)] ++ (g_bag_ ++ amb)) H Ho := z
    have o4 := OL.mk (p := p1) d3
    refine l_o hw z o4 (fun left_ v_left_ g_left_ z d_left_ hw => ?_)
    refine l_asg (fun v => [_, _, _, some v, _, _, _]) (fun _ => rfl) ?_
    refine k_lst ?_
    refine y_nil ?_
    refine k_lstk (K := K) (xs := ([] : (List Int))) z DqAll.nil (by show 0 ≤ sizeLine; decide) (fun H p5 ws6 z d7 => ?_)
    replace z : Zs ([(p5, HO.lst ws6)] ++ (g_left_ ++ (g_bag_ ++ amb))) H Ho := z
    have o8 := OL.mk (p := p5) d7
    refine l_o hw z o8 (fun order_ v_order_ g_order_ z d_order_ hw => ?_)
    refine y_for ?_
    refine k_iR1 ?_
    refine y_cons ?_
    refine y_cb ?_
    refine y_cons ?_
    refine y_var rfl ?_
    refine y_nil ?_
    refine y_sum (LV.sub d_counts_ (mgS (mgS (mgS mgE)))) z ?_
    refine y_nil ?_
    refine k_srcR1 (K := K) (Ho := Ho) hw.1 (fun J T => ?_)
    replace hw := (run_gd hw).2
    refine y_forL T hw (fun (s : (H5 (List Int) Int Int Int Int) × (List Int) × (List Int)) (σ : L2.St) (H Ho : Hp) => ∃ (g_bag_ : Grp) (g_left_ : Grp) (g_order_ : Grp) (y_step_ : Option V) (y_some_ : Option V), σ = [some v_bag_, some v_counts_, some v_left_, some v_order_, y_step_, y_some_, none] ∧ Zs (g_order_ ++ (g_left_ ++ (g_bag_ ++ amb))) H Ho ∧ OH K Ho v_bag_ s.1 g_bag_ ∧ OL K Ho v_left_ s.2.1 g_left_ ∧ OL K Ho v_order_ s.2.2 g_order_) ⟨_, _, _, _, _, rfl, z, d_bag_, d_left_, d_order_⟩ ?_ ?_ ?_ ?_
    · intro s σ H Ho hI
      obtain ⟨bag_, left_, order_⟩ := s
      obtain ⟨g_bag_, g_left_, g_order_, y_step_, y_some_, rfl, z, d_bag_, d_left_, d_order_⟩ := hI
      exact ⟨_, z, mgN⟩
    · intro s σ H Ho H2 Ho2 hI e t
      obtain ⟨bag_, left_, order_⟩ := s
      obtain ⟨g_bag_, g_left_, g_order_, y_step_, y_some_, rfl, z, d_bag_, d_left_, d_order_⟩ := hI
      exact ⟨_, _, _, _, _, rfl, t _ z, OH.mo d_bag_ e, OL.mo d_left_ e, OL.mo d_order_ e⟩
    · intro step_ v_step_ s σ H Ho N e hI d_step_ hw
      obtain ⟨bag_, left_, order_⟩ := s
      obtain ⟨g_bag_, g_left_, g_order_, y_step_, y_some_, rfl, z, d_bag_, d_left_, d_order_⟩ := hI
      have es9 := (Same.refl _).trans e
      obtain rfl := d_int d_step_
      refine y_gname (σ' := [some v_bag_, some v_counts_, some v_left_, some v_order_, some (V.int step_), y_some_, none]) rfl ?_
      refine l_asg (fun v => [_, _, _, _, _, some v, _]) (fun _ => rfl) ?_
      refine y_lc ?_
      refine k_iR1 ?_
      refine y_cons ?_
      refine y_cb ?_
      refine y_cons ?_
      refine y_var rfl ?_
      refine y_nil ?_
      refine y_len (OL.lv d_left_ (mgS mg0)) z ?_
      refine y_nil ?_
      refine k_srcR1 (K := K) (Ho := Ho) hw.1 (fun J T => ?_)
      replace hw := (run_gd hw).2
      refine y_lcG z mgN T hw (fun r10 hand_ v_hand_ H Ho N N' e z d_hand_ hw => ?_) (fun t17 H Ho e hw p14 ws15 z d16 => ?_)
      · replace z : Zs ([r10] ++ (g_order_ ++ (g_left_ ++ (g_bag_ ++ amb)))) H Ho := z
        replace d_bag_ := OH.mo d_bag_ e
        replace d_left_ := OL.mo d_left_ e
        replace d_order_ := OL.mo d_order_ e
        have es11 := (Same.refl _).trans e
        obtain rfl := d_int d_hand_
        refine y_gname (σ' := [some v_bag_, some v_counts_, some v_left_, some v_order_, some (V.int step_), y_some_, some (V.int hand_)]) rfl ?_
        refine ⟨rfl, ?_⟩
        refine y_test ?_
        refine y_op ?_
        refine y_op ?_
        refine y_var rfl ?_
        refine y_var rfl ?_
        refine y_ixL (OL.lv d_left_ (mgS (mgS mg0))) z hw (fun t12 w d13 hw => ?_)
        first | obtain rfl := d_int d13 | cases d_int d13
        refine y_c ?_
        refine y_i0 ?_
        refine ⟨_, rfl, ?_⟩
        refine w_two (fun hb => ?_) (fun hb => ?_)
        · replace hw := run_itT (run_ret hw) hb
          refine y_var rfl ?_
          exact (run_ret hw) _ _ _ (Same.refl _) z (Dq.int _)
        · exact run_itF (run_ret hw) hb _ _ (Same.refl _) z
      replace d_bag_ := OH.mo d_bag_ e
      replace d_left_ := OL.mo d_left_ e
      replace d_order_ := OL.mo d_order_ e
      have es18 := (Same.refl _).trans e
      replace z : Zs ([(p14, HO.lst ws15)] ++ (g_order_ ++ (g_left_ ++ (g_bag_ ++ amb)))) H Ho := z
      have o19 := OL.mk (p := p14) d16
      refine l_fr o19 z (fun Ho e z d20 => ?_)
      replace d_bag_ := OH.mo d_bag_ e
      replace d_left_ := OL.mo d_left_ e
      replace d_order_ := OL.mo d_order_ e
      have es21 := es18.trans e
      refine l_d (K := K) (Ho := Ho) hw d20 (fun some_ v_some_ d_some_ hw => ?_)
      refine y_drop ?_
      refine y_bm ?_
      refine y_var rfl ?_
      refine g_tyL (OL.lv d_order_ mg0) z ?_
      refine y_cons ?_
      refine y_op ?_
      refine y_var rfl ?_
      refine y_call ?_
      refine y_cons ?_
      refine y_var rfl ?_
      refine y_cons ?_
      refine y_cb ?_
      refine y_cons ?_
      refine y_var rfl ?_
      refine y_nil ?_
      refine y_len (LV.of d_some_) z ?_
      refine y_nil ?_
      replace z : Zs (g_bag_ ++ (g_order_ ++ (g_left_ ++ amb))) _ _ := z.go [g_order_, g_left_, g_bag_] amb [2, 0, 1]
      refine ⟨(g_order_ ++ (g_left_ ++ amb)), _, _, _, _, _, _, rfl, z, d_bag_, (Dq.int _), ?_⟩
      refine run_mono2 hw (fun t22 bag_ hw v g_bag_ H Ho e z d23 d_bag_ => ?_)
      replace d23 : Z.D K Ho v t22 := d23
      replace d_bag_ : OH K Ho v_bag_ bag_ g_bag_ := d_bag_
      replace d_left_ := OL.mo d_left_ e
      replace d_order_ := OL.mo d_order_ e
      replace d_some_ := D.mo d_some_ e
      have es25 := es21.trans e
      first | obtain rfl := d_int d23 | cases d_int d23
      refine y_ixL (LV.of d_some_) z hw (fun t26 w d27 hw => ?_)
      first | obtain rfl := d_int d27 | cases d_int d27
      refine y_nil ?_
      replace z : Zs (g_order_ ++ (g_bag_ ++ (g_left_ ++ amb))) _ _ := z.go [g_bag_, g_order_, g_left_] amb [1, 0, 2]
      refine g_app z d_order_ (Dq.int _) hw (fun order_ g_order_ H z d_order_ hw => ?_)
      refine y_asgG ?_
      refine y_op ?_
      refine y_op ?_
      refine y_var rfl ?_
      refine y_op ?_
      refine y_var rfl ?_
      refine y_un ?_
      refine y_c ?_
      refine y_neg ?_
      refine y_ixL (OL.lv d_order_ mg0) z hw (fun t28 w d29 hw => ?_)
      first | obtain rfl := d_int d29 | cases d_int d29
      refine y_ixL (OL.lv d_left_ (mgS (mgS mg0))) z hw (fun t30 w d31 hw => ?_)
      first | obtain rfl := d_int d31 | cases d_int d31
      refine y_c ?_
      refine y_i0 ?_
      refine y_gsub ?_
      refine y_var rfl ?_
      refine y_op ?_
      refine y_var rfl ?_
      refine y_un ?_
      refine y_c ?_
      refine y_neg ?_
      refine y_ixL (OL.lv d_order_ mg0) z hw (fun t32 w d33 hw => ?_)
      first | obtain rfl := d_int d33 | cases d_int d33
      replace z : Zs (g_left_ ++ (g_order_ ++ (g_bag_ ++ amb))) _ _ := z.go [g_order_, g_bag_, g_left_] amb [2, 0, 1]
      refine g_sti z d_left_ (Dq.int _) hw (fun left_ g_left_ H z d_left_ hw => ?_)
      replace z : Zs (g_order_ ++ (g_left_ ++ (g_bag_ ++ amb))) _ _ := z.go [g_left_, g_order_, g_bag_] amb [1, 0, 2]
      exact (run_ret hw) _ _ _ es25 ⟨_, _, _, _, _, rfl, z, d_bag_, d_left_, d_order_⟩
    intro s σ H Ho e hI hw
    obtain ⟨bag_, left_, order_⟩ := s
    obtain ⟨g_bag_, g_left_, g_order_, y_step_, y_some_, rfl, z, d_bag_, d_left_, d_order_⟩ := hI
    have es34 := (Same.refl _).trans e
    refine y_ret ?_
    refine y_var rfl ?_
    refine l_fr d_order_ z (fun Ho e z d_order_ => ?_)
    replace d_bag_ := OH.mo d_bag_ e
    replace d_left_ := OL.mo d_left_ e
    have es35 := es34.trans e
    replace z : Zs (g_bag_ ++ amb) _ _ := z.go [g_left_, g_bag_] amb [1]
    exact (run_ret hw) _ _ _ _ es35 z d_order_ d_bag_
def sp_law_spots (K : PySem.W.Frag) (cl : Nat → Addr) : Sp := fun vs H Q E => ∃ (amb : Grp) (Ho : Hp) (v0 : V) (x0 : (List Int)), vs = [v0] ∧ Zs amb H Ho ∧ LV K amb Ho v0 x0 ∧ (m_law_spots x0).run fun r => ∀ v g H' Ho', Same Ho Ho' → Zs (g ++ amb) H' Ho' → OD K Ho' v r g → Q v H'
abbrev s_law_spots : Stmt := topS 20
theorem sc_law_spots : FnScope ["order", "found", "many", "at"] ["order"] (defScope s_law_spots) := ⟨rfl, rfl, rfl, by decide +kernel, rfl, by decide +kernel, by decide +kernel⟩
theorem ok_law_spots {f : Addr} {fd : FuncData} (F : Fun K "_law_spots" "_law_spots" s_law_spots f fd) (m_len : mg "len" = none) (m_range : mg "range" = none) :
    FnOk P w K mg base CX0 1 f fd ["order"] (sp_law_spots K cl) := by
  refine F.ok sc_law_spots (fun vs H Q E h => ?_) (fun cdv A outer s H vs Q E hr h => ?_)
  · obtain ⟨amb, Ho, v_order_, order_, rfl, _⟩ := h
    rfl
  · obtain ⟨amb, Ho, v_order_, order_, rfl, z, d_order_, hw⟩ := h
    refine ⟨_, pss_cons (ps_set (i := 1) sc_law_spots.nd rfl (Or.inl rfl) (pe_dnewT)) (pss_cons (ps_set (i := 2) sc_law_spots.nd rfl (Or.inl rfl) (pe_dnewK)) (pss_cons (ps_for PassesOwn.never rfl (pi_range1 (by rfl) m_range (pa_cons (pe_callB (zlen (K := K) rfl) (by rfl) m_len (by decide +kernel) (pa_cons (pv 0) (pa_nil))) (pa_nil))) (pg_name (i := 3) sc_law_spots.nd rfl (Or.inl rfl)) (pss_cons (ps_dput (room1 hr) (pv 2) (pe_ix (zix_list (K := K) rfl) (pv 0) (pv 3) (fun _ _ => rfl)) (pe_op op_add (pe_dget2 (room1 hr) (pv 2) (pe_ix (zix_list (K := K) rfl) (pv 0) (pv 3) (fun _ _ => rfl)) (pe_int) ⟨by rfl, by rfl, by rfl, by rfl⟩) (pe_int)) (by rfl)) (pss_cons (ps_dput (room1 hr) (pv 1) (pe_tup (pa_cons (pe_ix (zix_list (K := K) rfl) (pv 0) (pv 3) (fun _ _ => rfl)) (pa_cons (pe_op op_sub (pe_dget (room1 hr) (pv 2) (pe_ix (zix_list (K := K) rfl) (pv 0) (pv 3) (fun _ _ => rfl)) (fun _ _ => rfl)) (pe_int)) (pa_nil)))) (pv 3) (by rfl)) (pss_nil)))) (pss_cons (ps_ret (pv 1)) (pss_nil)))), ?_⟩
    refine l_asg (fun v => [_, some v, _, _]) (fun _ => rfl) ?_
    refine g_dnewT (K := K) (α := Int) z (fun H v1 g2 z o3 => ?_)
    refine d_o hw z o3 (fun found_ v_found_ g_found_ z d_found_ hw => ?_)
    refine l_asg (fun v => [_, _, some v, _]) (fun _ => rfl) ?_
    refine g_dnewK (K := K) (α := Int) z (fun H v4 g5 z o6 => ?_)
    refine d_o hw z o6 (fun many_ v_many_ g_many_ z d_many_ hw => ?_)
    refine y_for ?_
    refine k_iR1 ?_
    refine y_cons ?_
    refine y_cb ?_
    refine y_cons ?_
    refine y_var rfl ?_
    refine y_nil ?_
    refine y_len (LV.sub d_order_ (mgS (mgS mgE))) z ?_
    refine y_nil ?_
    refine k_srcR1 (K := K) (Ho := Ho) hw.1 (fun J T => ?_)
    replace hw := (run_gd hw).2
    refine y_forL T hw (fun (s : (Dc (Int × Int) Int) × (Dc Int Int)) (σ : L2.St) (H Ho : Hp) => ∃ (g_found_ : Grp) (g_many_ : Grp) (y_at_ : Option V), σ = [some v_order_, some v_found_, some v_many_, y_at_] ∧ Zs (g_many_ ++ (g_found_ ++ amb)) H Ho ∧ OD K Ho v_found_ s.1 g_found_ ∧ OD K Ho v_many_ s.2 g_many_) ⟨_, _, _, rfl, z, d_found_, d_many_⟩ ?_ ?_ ?_ ?_
    · intro s σ H Ho hI
      obtain ⟨found_, many_⟩ := s
      obtain ⟨g_found_, g_many_, y_at_, rfl, z, d_found_, d_many_⟩ := hI
      exact ⟨_, z, mgN⟩
    · intro s σ H Ho H2 Ho2 hI e t
      obtain ⟨found_, many_⟩ := s
      obtain ⟨g_found_, g_many_, y_at_, rfl, z, d_found_, d_many_⟩ := hI
      exact ⟨_, _, _, rfl, t _ z, OD.mo d_found_ e, OD.mo d_many_ e⟩
    · intro at_ v_at_ s σ H Ho N e hI d_at_ hw
      obtain ⟨found_, many_⟩ := s
      obtain ⟨g_found_, g_many_, y_at_, rfl, z, d_found_, d_many_⟩ := hI
      replace d_order_ := LV.mo d_order_ e
      have es7 := (Same.refl _).trans e
      obtain rfl := d_int d_at_
      refine y_gname (σ' := [some v_order_, some v_found_, some v_many_, some (V.int at_)]) rfl ?_
      refine y_dput ?_
      refine y_op ?_
      refine y_dget2 ?_
      refine y_var rfl ?_
      refine g_isd ⟨_, d_many_, mg0⟩ z (fun a8 ea8 => ?_)
      refine y_op ?_
      refine y_var rfl ?_
      refine y_var rfl ?_
      refine y_ixL (LV.sub d_order_ (mgS (mgS mgE))) z hw (fun t9 w d10 hw => ?_)
      first | obtain rfl := d_int d10 | cases d_int d10
      refine y_c ?_
      refine g_dget2 ea8 ⟨_, d_many_, mg0⟩ z (Dq.int _) (Dq.int _) (fun w d11 => ?_)
      obtain rfl := d_int d11
      refine y_c ?_
      refine y_i0 ?_
      refine y_var rfl ?_
      refine y_op ?_
      refine y_var rfl ?_
      refine y_var rfl ?_
      refine y_ixL (LV.sub d_order_ (mgS (mgS mgE))) z hw (fun t12 w d13 hw => ?_)
      first | obtain rfl := d_int d13 | cases d_int d13
      refine g_dput z d_many_ (Dq.int _) (Dq.int _) hw (fun many_ g_many_ H z d_many_ hw => ?_)
      refine y_dput ?_
      refine y_var rfl ?_
      refine y_var rfl ?_
      refine k_tup ?_
      refine y_cons ?_
      refine y_op ?_
      refine y_var rfl ?_
      refine y_var rfl ?_
      refine y_ixL (LV.sub d_order_ (mgS (mgS mgE))) z hw (fun t14 w d15 hw => ?_)
      first | obtain rfl := d_int d15 | cases d_int d15
      refine y_cons ?_
      refine y_op ?_
      refine y_dget ?_
      refine y_var rfl ?_
      refine y_op ?_
      refine y_var rfl ?_
      refine y_var rfl ?_
      refine y_ixL (LV.sub d_order_ (mgS (mgS mgE))) z hw (fun t16 w d17 hw => ?_)
      first | obtain rfl := d_int d17 | cases d_int d17
      refine g_dget ⟨_, d_many_, mg0⟩ z (Dq.int _) hw (fun t18 w d19 hw => ?_)
      first | obtain rfl := d_int d19 | cases d_int d19
      refine y_c ?_
      refine y_i0 ?_
      refine y_nil ?_
      refine k_tupk (K := K) (x := (t14, (t18 - (1 : Int)))) z (by show 2 ≤ sizeLine; decide) _ rfl (DqAll.cons (Dq.int _) (DqAll.cons (Dq.int _) DqAll.nil)) (fun p H Ho e z d20 => ?_)
      replace d_found_ := OD.mo d_found_ e
      replace d_many_ := OD.mo d_many_ e
      replace d_order_ := LV.mo d_order_ e
      have es21 := (Same.refl _).trans e
      replace z : Zs (g_found_ ++ (g_many_ ++ amb)) _ _ := z.go [g_many_, g_found_] amb [1, 0]
      refine g_dput z d_found_ d20 (Dq.int _) hw (fun found_ g_found_ H z d_found_ hw => ?_)
      replace z : Zs (g_many_ ++ (g_found_ ++ amb)) _ _ := z.go [g_found_, g_many_] amb [1, 0]
      exact (run_ret hw) _ _ _ es21 ⟨_, _, _, rfl, z, d_found_, d_many_⟩
    intro s σ H Ho e hI hw
    obtain ⟨found_, many_⟩ := s
    obtain ⟨g_found_, g_many_, y_at_, rfl, z, d_found_, d_many_⟩ := hI
    have es22 := (Same.refl _).trans e
    refine y_ret ?_
    refine y_var rfl ?_
    replace z : Zs (g_found_ ++ amb) _ _ := z.go [g_many_, g_found_] amb [1]
    exact (run_ret hw) _ _ _ _ es22 z d_found_
def sp_law_note (K : PySem.W.Frag) (cl : Nat → Addr) : Sp := fun vs H Q E => ∃ (amb : Grp) (Ho : Hp) (v0 : V) (x0 : (H5 (List Int) Int Int Int Int)) (g0 : Grp) (v1 : V) (x1 : (List Int)), vs = [v0, v1] ∧ Zs (g0 ++ amb) H Ho ∧ OH K Ho v0 x0 g0 ∧ LV K amb Ho v1 x1 ∧ (m_law_note x0 x1).run fun r => ∀ v h0 H' Ho', Same Ho Ho' → Zs (h0 ++ amb) H' Ho' → Z.D K Ho' v r.1 → OH K Ho' v0 r.2 h0 → Q v H'
abbrev s_law_note : Stmt := topS 21
theorem sc_law_note : FnScope ["bag", "counts", "some", "hand", "i", "j"] ["bag", "counts"] (defScope s_law_note) := ⟨rfl, rfl, rfl, by decide +kernel, rfl, by decide +kernel, by decide +kernel⟩
theorem ok_law_note {f : Addr} {fd : FuncData} (F : Fun K "_law_note" "_law_note" s_law_note f fd) {f_law_draw : Addr} {fd_law_draw : FuncData} (c_law_draw : Cal P w K mg base CX0 "_law_draw" ["bag", "many"] 2 (sp_law_draw K cl) f_law_draw fd_law_draw) (m_len : mg "len" = none) (m_range : mg "range" = none) :
    FnOk P w K mg base CX0 3 f fd ["bag", "counts"] (sp_law_note K cl) := by
  refine F.ok sc_law_note (fun vs H Q E h => ?_) (fun cdv A outer s H vs Q E hr h => ?_)
  · obtain ⟨amb, Ho, v_bag_, bag_, g_bag_, v_counts_, counts_, rfl, _⟩ := h
    rfl
  · obtain ⟨amb, Ho, v_bag_, bag_, g_bag_, v_counts_, counts_, rfl, z, d_bag_, d_counts_, hw⟩ := h
    refine ⟨_, pss_cons (ps_setLc (i := 2) (own := [("hand", 3)]) rfl sc_law_note.nd rfl rfl (sw_true rfl rfl rfl (by decide +kernel)) (pi_range1 (by rfl) m_range (pa_cons (pe_callB (zlen (K := K) rfl) (by rfl) m_len (by decide +kernel) (pa_cons (pv 1) (pa_nil))) (pa_nil))) (blkOk_by (N := ["bag", "counts", "some", "hand", "i", "j"]) (sc := defScope s_law_note) (by decide +kernel)) (fun _ _ _ _ _ => pg_name (i := 3) sc_law_note.nd rfl (Or.inl rfl)) (fun _ _ _ _ _ => pts_one (pt_cmpR (op_gt) (pe_ix (zix_list (K := K) rfl) (pv 1) (pv 3) (fun _ _ => rfl)) (pe_int) (nomark _))) (fun _ _ _ _ _ => pv 3)) (pss_cons (ps_if (pt_cmpR (op_lt) (pe_callB (zlen (K := K) rfl) (by rfl) m_len (by decide +kernel) (pa_cons (pv 2) (pa_nil))) (pe_int) (nomark _)) (pss_cons (ps_ret (pe_non)) (pss_nil)) (pss_nil)) (pss_cons (ps_set (i := 4) sc_law_note.nd rfl (Or.inl rfl) (pe_call c_law_draw.ok (hr.mono (by decide)) (by rfl) c_law_draw.g c_law_draw.kp c_law_draw.b .nil pass0 (pa_cons (pv 0) (pa_cons (pe_callB (zlen (K := K) rfl) (by rfl) m_len (by decide +kernel) (pa_cons (pv 2) (pa_nil))) (pa_nil))))) (pss_cons (ps_set (i := 5) sc_law_note.nd rfl (Or.inl rfl) (pe_op op_mod (pe_op op_add (pe_op op_add (pv 4) (pe_int)) (pe_call c_law_draw.ok (hr.mono (by decide)) (by rfl) c_law_draw.g c_law_draw.kp c_law_draw.b .nil pass0 (pa_cons (pv 0) (pa_cons (pe_op op_sub (pe_callB (zlen (K := K) rfl) (by rfl) m_len (by decide +kernel) (pa_cons (pv 2) (pa_nil))) (pe_int)) (pa_nil))))) (pe_callB (zlen (K := K) rfl) (by rfl) m_len (by decide +kernel) (pa_cons (pv 2) (pa_nil))))) (pss_cons (ps_ret (pe_tup (pa_cons (pe_ix (zix_list (K := K) rfl) (pv 2) (pv 4) (fun _ _ => rfl)) (pa_cons (pe_call c_law_draw.ok (hr.mono (by decide)) (by rfl) c_law_draw.g c_law_draw.kp c_law_draw.b .nil pass0 (pa_cons (pv 0) (pa_cons (pe_ix (zix_list (K := K) rfl) (pv 1) (pe_ix (zix_list (K := K) rfl) (pv 2) (pv 4) (fun _ _ => rfl)) (fun _ _ => rfl)) (pa_nil)))) (pa_cons (pe_ix (zix_list (K := K) rfl) (pv 2) (pv 5) (fun _ _ => rfl)) (pa_cons (pe_call c_law_draw.ok (hr.mono (by decide)) (by rfl) c_law_draw.g c_law_draw.kp c_law_draw.b .nil pass0 (pa_cons (pv 0) (pa_cons (pe_ix (zix_list (K := K) rfl) (pv 1) (pe_ix (zix_list (K := K) rfl) (pv 2) (pv 5) (fun _ _ => rfl)) (fun _ _ => rfl)) (pa_nil)))) (pa_nil))))))) (pss_nil))))), ?_⟩
    refine l_asg (fun v => [_, _, some v, _, _, _]) (fun _ => rfl) ?_
    refine y_lc ?_
    refine k_iR1 ?_
    refine y_cons ?_
    refine y_cb ?_
    refine y_cons ?_
    refine y_var rfl ?_
    refine y_nil ?_
    refine y_len (LV.sub d_counts_ (mgS mgE)) z ?_
    refine y_nil ?_
    refine k_srcR1 (K := K) (Ho := Ho) hw.1 (fun J T => ?_)
    replace hw := (run_gd hw).2
    refine y_lcG z mgN T hw (fun r1 hand_ v_hand_ H Ho N N' e z d_hand_ hw => ?_) (fun t8 H Ho e hw p5 ws6 z d7 => ?_)
    · replace z : Zs ([r1] ++ (g_bag_ ++ amb)) H Ho := z
      replace d_bag_ := OH.mo d_bag_ e
      replace d_counts_ := LV.mo d_counts_ e
      have es2 := (Same.refl _).trans e
      obtain rfl := d_int d_hand_
      refine y_gname (σ' := [some v_bag_, some v_counts_, none, some (V.int hand_), none, none]) rfl ?_
      refine ⟨rfl, ?_⟩
      refine y_test ?_
      refine y_op ?_
      refine y_op ?_
      refine y_var rfl ?_
      refine y_var rfl ?_
      refine y_ixL (LV.sub d_counts_ (mgS (mgS mgE))) z hw (fun t3 w d4 hw => ?_)
      first | obtain rfl := d_int d4 | cases d_int d4
      refine y_c ?_
      refine y_i0 ?_
      refine ⟨_, rfl, ?_⟩
      refine w_two (fun hb => ?_) (fun hb => ?_)
      · replace hw := run_itT (run_ret hw) hb
        refine y_var rfl ?_
        exact (run_ret hw) _ _ _ (Same.refl _) z (Dq.int _)
      · exact run_itF (run_ret hw) hb _ _ (Same.refl _) z
    replace d_bag_ := OH.mo d_bag_ e
    replace d_counts_ := LV.mo d_counts_ e
    have es9 := (Same.refl _).trans e
    replace z : Zs ([(p5, HO.lst ws6)] ++ (g_bag_ ++ amb)) H Ho := z
    have o10 := OL.mk (p := p5) d7
    refine l_fr o10 z (fun Ho e z d11 => ?_)
    replace d_bag_ := OH.mo d_bag_ e
    replace d_counts_ := LV.mo d_counts_ e
    have es12 := es9.trans e
    refine l_d (K := K) (Ho := Ho) hw d11 (fun some_ v_some_ d_some_ hw => ?_)
    refine y_ifS ?_
    refine y_test ?_
    refine y_op ?_
    refine y_cb ?_
    refine y_cons ?_
    refine y_var rfl ?_
    refine y_nil ?_
    refine y_len (LV.of d_some_) z ?_
    refine y_c ?_
    refine y_i0 ?_
    refine ⟨_, rfl, ?_⟩
    refine y_cases hw (fun hb hw => ?_) (fun hb hw => ?_)
    · refine y_ret ?_
      refine y_c ?_
      exact (run_ret hw) _ _ _ _ es12 z (show Z.D K Ho V.non (none : (Option (P4 Int Int Int Int))) from Dq.non) d_bag_
    · refine y_nxS ?_
      refine l_asg (fun v => [_, _, _, _, some v, _]) (fun _ => rfl) ?_
      refine y_call ?_
      refine y_cons ?_
      refine y_var rfl ?_
      refine y_cons ?_
      refine y_cb ?_
      refine y_cons ?_
      refine y_var rfl ?_
      refine y_nil ?_
      refine y_len (LV.of d_some_) z ?_
      refine y_nil ?_
      refine ⟨amb, _, _, _, _, _, _, rfl, z, d_bag_, (Dq.int _), ?_⟩
      refine run_mono2 hw (fun t13 bag_ hw v g_bag_ H Ho e z d14 d_bag_ => ?_)
      replace d14 : Z.D K Ho v t13 := d14
      replace d_bag_ : OH K Ho v_bag_ bag_ g_bag_ := d_bag_
      replace d_counts_ := LV.mo d_counts_ e
      replace d_some_ := D.mo d_some_ e
      have es16 := es12.trans e
      first | obtain rfl := d_int d14 | cases d_int d14
      refine l_i hw (fun i_ hw => ?_)
      refine l_asg (fun v => [_, _, _, _, _, some v]) (fun _ => rfl) ?_
      refine y_op ?_
      refine y_op ?_
      refine y_op ?_
      refine y_var rfl ?_
      refine y_c ?_
      refine y_i0 ?_
      refine y_call ?_
      refine y_cons ?_
      refine y_var rfl ?_
      refine y_cons ?_
      refine y_op ?_
      refine y_cb ?_
      refine y_cons ?_
      refine y_var rfl ?_
      refine y_nil ?_
      refine y_len (LV.of d_some_) z ?_
      refine y_c ?_
      refine y_i0 ?_
      refine y_nil ?_
      refine ⟨amb, _, _, _, _, _, _, rfl, z, d_bag_, (Dq.int _), ?_⟩
      refine run_mono2 hw (fun t17 bag_ hw v g_bag_ H Ho e z d18 d_bag_ => ?_)
      replace d18 : Z.D K Ho v t17 := d18
      replace d_bag_ : OH K Ho v_bag_ bag_ g_bag_ := d_bag_
      replace d_counts_ := LV.mo d_counts_ e
      replace d_some_ := D.mo d_some_ e
      have es20 := es16.trans e
      first | obtain rfl := d_int d18 | cases d_int d18
      refine y_i0 ?_
      refine y_cb ?_
      refine y_cons ?_
      refine y_var rfl ?_
      refine y_nil ?_
      refine y_len (LV.of d_some_) z ?_
      refine y_ig hw.1 ?_
      replace hw := (run_gd hw).2
      refine l_i hw (fun j_ hw => ?_)
      refine y_ret ?_
      refine k_tup ?_
      refine y_cons ?_
      refine y_op ?_
      refine y_var rfl ?_
      refine y_var rfl ?_
      refine y_ixL (LV.of d_some_) z hw (fun t21 w d22 hw => ?_)
      first | obtain rfl := d_int d22 | cases d_int d22
      refine y_cons ?_
      refine y_call ?_
      refine y_cons ?_
      refine y_var rfl ?_
      refine y_cons ?_
      refine y_op ?_
      refine y_var rfl ?_
      refine y_op ?_
      refine y_var rfl ?_
      refine y_var rfl ?_
      refine y_ixL (LV.of d_some_) z hw (fun t23 w d24 hw => ?_)
      first | obtain rfl := d_int d24 | cases d_int d24
      refine y_ixL (LV.sub d_counts_ (mgS mgE)) z hw (fun t25 w d26 hw => ?_)
      first | obtain rfl := d_int d26 | cases d_int d26
      refine y_nil ?_
      refine ⟨amb, _, _, _, _, _, _, rfl, z, d_bag_, (Dq.int _), ?_⟩
      refine run_mono2 hw (fun t27 bag_ hw v g_bag_ H Ho e z d28 d_bag_ => ?_)
      replace d28 : Z.D K Ho v t27 := d28
      replace d_bag_ : OH K Ho v_bag_ bag_ g_bag_ := d_bag_
      replace d_counts_ := LV.mo d_counts_ e
      replace d_some_ := D.mo d_some_ e
      have es30 := es20.trans e
      first | obtain rfl := d_int d28 | cases d_int d28
      refine y_cons ?_
      refine y_op ?_
      refine y_var rfl ?_
      refine y_var rfl ?_
      refine y_ixL (LV.of d_some_) z hw (fun t31 w d32 hw => ?_)
      first | obtain rfl := d_int d32 | cases d_int d32
      refine y_cons ?_
      refine y_call ?_
      refine y_cons ?_
      refine y_var rfl ?_
      refine y_cons ?_
      refine y_op ?_
      refine y_var rfl ?_
      refine y_op ?_
      refine y_var rfl ?_
      refine y_var rfl ?_
      refine y_ixL (LV.of d_some_) z hw (fun t33 w d34 hw => ?_)
      first | obtain rfl := d_int d34 | cases d_int d34
      refine y_ixL (LV.sub d_counts_ (mgS mgE)) z hw (fun t35 w d36 hw => ?_)
      first | obtain rfl := d_int d36 | cases d_int d36
      refine y_nil ?_
      refine ⟨amb, _, _, _, _, _, _, rfl, z, d_bag_, (Dq.int _), ?_⟩
      refine run_mono2 hw (fun t37 bag_ hw v g_bag_ H Ho e z d38 d_bag_ => ?_)
      replace d38 : Z.D K Ho v t37 := d38
      replace d_bag_ : OH K Ho v_bag_ bag_ g_bag_ := d_bag_
      replace d_counts_ := LV.mo d_counts_ e
      replace d_some_ := D.mo d_some_ e
      have es40 := es30.trans e
      first | obtain rfl := d_int d38 | cases d_int d38
      refine y_nil ?_
      refine k_tupk (K := K) (x := (⟨t21, t27, t31, t37⟩ : (P4 Int Int Int Int))) z (by show 4 ≤ sizeLine; decide) _ rfl (DqAll.cons (Dq.int _) (DqAll.cons (Dq.int _) (DqAll.cons (Dq.int _) (DqAll.cons (Dq.int _) DqAll.nil)))) (fun p H Ho e z d41 => ?_)
      replace d_bag_ := OH.mo d_bag_ e
      replace d_counts_ := LV.mo d_counts_ e
      replace d_some_ := D.mo d_some_ e
      have es42 := es40.trans e
      exact (run_ret hw) _ _ _ _ es42 z (show Z.D K Ho _ (some (⟨t21, t27, t31, t37⟩ : (P4 Int Int Int Int))) from d41) d_bag_
def sp_law_record (K : PySem.W.Frag) (cl : Nat → Addr) : Sp := fun vs H Q E => ∃ (amb : Grp) (Ho : Hp) (v0 : V) (x0 : (H5 (List Int) Int Int Int Int)) (g0 : Grp) (v1 : V) (x1 : Int), vs = [v0, v1] ∧ Zs (g0 ++ amb) H Ho ∧ OH K Ho v0 x0 g0 ∧ Z.D K Ho v1 x1 ∧ (m_law_record x0 x1).run fun r => ∀ v h0 H' Ho', Same Ho Ho' → Zs (h0 ++ amb) H' Ho' → Z.D K Ho' v r.1 → OH K Ho' v0 r.2 h0 → Q v H'
abbrev s_law_record : Stmt := topS 22
theorem sc_law_record : FnScope ["bag", "great", "mode", "twice", "counts", "spots", "ties", "step", "note", "along"] ["bag", "great"] (defScope s_law_record) := ⟨rfl, rfl, rfl, by decide +kernel, rfl, by decide +kernel, by decide +kernel⟩
theorem ok_law_record {f : Addr} {fd : FuncData} (F : Fun K "_law_record" "_law_record" s_law_record f fd) {f_law_draw : Addr} {fd_law_draw : FuncData} (c_law_draw : Cal P w K mg base CX0 "_law_draw" ["bag", "many"] 2 (sp_law_draw K cl) f_law_draw fd_law_draw) {f_law_counts : Addr} {fd_law_counts : FuncData} (c_law_counts : Cal P w K mg base CX0 "_law_counts" ["bag", "great"] 3 (sp_law_counts K cl) f_law_counts fd_law_counts) {f_law_spots : Addr} {fd_law_spots : FuncData} (c_law_spots : Cal P w K mg base CX0 "_law_spots" ["order"] 1 (sp_law_spots K cl) f_law_spots fd_law_spots) {f_law_order : Addr} {fd_law_order : FuncData} (c_law_order : Cal P w K mg base CX0 "_law_order" ["bag", "counts"] 3 (sp_law_order K cl) f_law_order fd_law_order) {f_law_note : Addr} {fd_law_note : FuncData} (c_law_note : Cal P w K mg base CX0 "_law_note" ["bag", "counts"] 3 (sp_law_note K cl) f_law_note fd_law_note) (m_range : mg "range" = none) (m_len : mg "len" = none) :
    FnOk P w K mg base CX0 4 f fd ["bag", "great"] (sp_law_record K cl) := by
  refine F.ok sc_law_record (fun vs H Q E h => ?_) (fun cdv A outer s H vs Q E hr h => ?_)
  · obtain ⟨amb, Ho, v_bag_, bag_, g_bag_, v_great_, great_, rfl, _⟩ := h
    rfl
  · obtain ⟨amb, Ho, v_bag_, bag_, g_bag_, v_great_, great_, rfl, z, d_bag_, d_great_, hw⟩ := h
    refine ⟨_, pss_cons (ps_set (i := 2) sc_law_record.nd rfl (Or.inl rfl) (pe_call c_law_draw.ok (hr.mono (by decide)) (by rfl) c_law_draw.g c_law_draw.kp c_law_draw.b .nil pass0 (pa_cons (pv 0) (pa_cons (pe_int) (pa_nil))))) (pss_cons (ps_set (i := 3) sc_law_record.nd rfl (Or.inl rfl) (pe_call c_law_draw.ok (hr.mono (by decide)) (by rfl) c_law_draw.g c_law_draw.kp c_law_draw.b .nil pass0 (pa_cons (pv 0) (pa_cons (pe_int) (pa_nil))))) (pss_cons (ps_set (i := 4) sc_law_record.nd rfl (Or.inl rfl) (pe_call c_law_counts.ok (hr.mono (by decide)) (by rfl) c_law_counts.g c_law_counts.kp c_law_counts.b .nil pass0 (pa_cons (pv 0) (pa_cons (pv 1) (pa_nil))))) (pss_cons (ps_set (i := 5) sc_law_record.nd rfl (Or.inl rfl) (pe_call c_law_spots.ok (hr.mono (by decide)) (by rfl) c_law_spots.g c_law_spots.kp c_law_spots.b .nil pass0 (pa_cons (pe_call c_law_order.ok (hr.mono (by decide)) (by rfl) c_law_order.g c_law_order.kp c_law_order.b .nil pass0 (pa_cons (pv 0) (pa_cons (pv 4) (pa_nil)))) (pa_nil)))) (pss_cons (ps_set (i := 6) sc_law_record.nd rfl (Or.inl rfl) (pe_lst (pa_nil))) (pss_cons (ps_for PassesOwn.never rfl (pi_range1 (by rfl) m_range (pa_cons (pe_call c_law_draw.ok (hr.mono (by decide)) (by rfl) c_law_draw.g c_law_draw.kp c_law_draw.b .nil pass0 (pa_cons (pv 0) (pa_cons (pe_ix (zix_list (K := K) rfl) (pe_lst (pa_cons (pe_int) (pa_cons (pe_int) (pa_nil)))) (pv 1) (fun _ _ => rfl)) (pa_nil)))) (pa_nil))) (pg_name (i := 7) sc_law_record.nd rfl (Or.inl rfl)) (pss_cons (ps_set (i := 8) sc_law_record.nd rfl (Or.inl rfl) (pe_call c_law_note.ok (hr.mono (by decide)) (by rfl) c_law_note.g c_law_note.kp c_law_note.b .nil pass0 (pa_cons (pv 0) (pa_cons (pv 4) (pa_nil))))) (pss_cons (ps_set (i := 9) sc_law_record.nd rfl (Or.inl rfl) (pe_or (pe_cmpR (op_eq) (pv 2) (pe_int) (nomark _)) (pe_one (pe_and (pe_cmpR (op_eq) (pv 2) (pe_int) (nomark _)) (pe_one (pe_cmpR (op_gt) (pe_call c_law_draw.ok (hr.mono (by decide)) (by rfl) c_law_draw.g c_law_draw.kp c_law_draw.b .nil pass0 (pa_cons (pv 0) (pa_cons (pe_int) (pa_nil)))) (pe_int) (nomark _))))))) (pss_cons (ps_if (pt_cmpR (op_notN) (pv 8) (pe_non) (nomark _)) (pss_cons (ps_if (PW.pt (pw_and (pt_val (pv 9)) (pw_and1 (pt_cmpR (op_gt) (pe_dget (room1 hr) (pv 5) (pe_slice (zsl_tup (K := K) rfl) (pv 8) po_none (po_some (pe_int))) (fun _ _ => rfl)) (pe_dget (room1 hr) (pv 5) (pe_slice (zsl_tup (K := K) rfl) (pv 8) (po_some (pe_int)) po_none) (fun _ _ => rfl)) (nomark _))))) (pss_cons (ps_set (i := 8) sc_law_record.nd rfl (Or.inl rfl) (pe_op (zop_catT (K := K) rfl) (pe_slice (zsl_tup (K := K) rfl) (pv 8) (po_some (pe_int)) po_none) (pe_slice (zsl_tup (K := K) rfl) (pv 8) po_none (po_some (pe_int))))) (pss_nil)) (pss_nil)) (pss_cons (ps_expr (pe_bm PySem.F.plainAttrs_list PySem.F.slot_list_insert PySem.F.type_list_insert zmt_insert (pv 6) (pa_cons (pe_call c_law_draw.ok (hr.mono (by decide)) (by rfl) c_law_draw.g c_law_draw.kp c_law_draw.b .nil pass0 (pa_cons (pv 0) (pa_cons (pe_op op_add (pe_callB (zlen (K := K) rfl) (by rfl) m_len (by decide +kernel) (pa_cons (pv 6) (pa_nil))) (pe_int)) (pa_nil)))) (pa_cons (pv 8) (pa_nil))))) (pss_nil))) (pss_nil)) (pss_nil))))) (pss_cons (ps_if (PW.pt (pw_and (pt_cmpR (op_eq) (pv 3) (pe_int) (nomark _)) (pw_and1 (pt_cmpR (zop_neD (K := K) rfl hr.units) (pv 6) (pe_lst (pa_nil)) (nomark _))))) (pss_cons (ps_expr (pe_bm PySem.F.plainAttrs_list PySem.F.slot_list_insert PySem.F.type_list_insert zmt_insert (pv 6) (pa_cons (pe_call c_law_draw.ok (hr.mono (by decide)) (by rfl) c_law_draw.g c_law_draw.kp c_law_draw.b .nil pass0 (pa_cons (pv 0) (pa_cons (pe_op op_add (pe_callB (zlen (K := K) rfl) (by rfl) m_len (by decide +kernel) (pa_cons (pv 6) (pa_nil))) (pe_int)) (pa_nil)))) (pa_cons (pe_ix (zix_list (K := K) rfl) (pv 6) (pe_call c_law_draw.ok (hr.mono (by decide)) (by rfl) c_law_draw.g c_law_draw.kp c_law_draw.b .nil pass0 (pa_cons (pv 0) (pa_cons (pe_callB (zlen (K := K) rfl) (by rfl) m_len (by decide +kernel) (pa_cons (pv 6) (pa_nil))) (pa_nil)))) (fun _ _ => rfl)) (pa_nil))))) (pss_nil)) (pss_nil)) (pss_cons (ps_ret (pe_tup (pa_cons (pv 4) (pa_cons (pv 6) (pa_nil))))) (pss_nil)))))))), ?_⟩
    obtain rfl := d_int d_great_
    refine l_asg (fun v => [_, _, some v, _, _, _, _, _, _, _]) (fun _ => rfl) ?_
    refine y_call ?_
    refine y_cons ?_
    refine y_var rfl ?_
    refine y_cons ?_
    refine y_c ?_
    refine y_nil ?_
    refine ⟨amb, _, _, _, _, _, _, rfl, z, d_bag_, (Dq.int _), ?_⟩
    refine run_mono2 hw (fun t1 bag_ hw v g_bag_ H Ho e z d2 d_bag_ => ?_)
    replace d2 : Z.D K Ho v t1 := d2
    replace d_bag_ : OH K Ho v_bag_ bag_ g_bag_ := d_bag_
    have es4 := (Same.refl _).trans e
    first | obtain rfl := d_int d2 | cases d_int d2
    refine l_i hw (fun mode_ hw => ?_)
    refine l_asg (fun v => [_, _, _, some v, _, _, _, _, _, _]) (fun _ => rfl) ?_
    refine y_call ?_
    refine y_cons ?_
    refine y_var rfl ?_
    refine y_cons ?_
    refine y_c ?_
    refine y_nil ?_
    refine ⟨amb, _, _, _, _, _, _, rfl, z, d_bag_, (Dq.int _), ?_⟩
    refine run_mono2 hw (fun t5 bag_ hw v g_bag_ H Ho e z d6 d_bag_ => ?_)
    replace d6 : Z.D K Ho v t5 := d6
    replace d_bag_ : OH K Ho v_bag_ bag_ g_bag_ := d_bag_
    have es8 := es4.trans e
    first | obtain rfl := d_int d6 | cases d_int d6
    refine l_i hw (fun twice_ hw => ?_)
    refine l_asg (fun v => [_, _, _, _, some v, _, _, _, _, _]) (fun _ => rfl) ?_
    refine y_call ?_
    refine y_cons ?_
    refine y_var rfl ?_
    refine y_cons ?_
    refine y_var rfl ?_
    refine y_nil ?_
    refine ⟨amb, _, _, _, _, _, _, rfl, z, d_bag_, (Dq.int _), ?_⟩
    refine run_mono2 hw (fun t9 bag_ hw v g_bag_ H Ho e z d10 d_bag_ => ?_)
    replace d10 : Z.D K Ho v t9 := d10
    replace d_bag_ : OH K Ho v_bag_ bag_ g_bag_ := d_bag_
    have es12 := es8.trans e
    refine l_d (K := K) (Ho := Ho) hw d10 (fun counts_ v_counts_ d_counts_ hw => ?_)
    refine l_asg (fun v => [_, _, _, _, _, some v, _, _, _, _]) (fun _ => rfl) ?_
    refine y_call ?_
    refine y_cons ?_
    refine y_call ?_
    refine y_cons ?_
    refine y_var rfl ?_
    refine y_cons ?_
    refine y_var rfl ?_
    refine y_nil ?_
    refine ⟨amb, _, _, _, _, _, _, rfl, z, d_bag_, (LV.of d_counts_), ?_⟩
    refine run_mono2 hw (fun t13 bag_ hw v g_bag_ H Ho e z d14 d_bag_ => ?_)
    replace d14 : Z.D K Ho v t13 := d14
    replace d_bag_ : OH K Ho v_bag_ bag_ g_bag_ := d_bag_
    replace d_counts_ := D.mo d_counts_ e
    have es16 := es12.trans e
    refine y_nil ?_
    refine ⟨(g_bag_ ++ amb), _, _, _, rfl, z, (LV.of d14), ?_⟩
    refine run_mono3 hw (fun t17 hw v g19 H Ho e z d18 => ?_)
    replace d_bag_ := OH.mo d_bag_ e
    replace d_counts_ := D.mo d_counts_ e
    have es20 := es16.trans e
    refine d_o hw z d18 (fun spots_ v_spots_ g_spots_ z d_spots_ hw => ?_)
    refine l_asg (fun v => [_, _, _, _, _, _, some v, _, _, _]) (fun _ => rfl) ?_
    refine k_lst ?_
    refine y_nil ?_
    refine k_lstk (K := K) (xs := ([] : (List (P4 Int Int Int Int)))) z DqAll.nil (by show 0 ≤ sizeLine; decide) (fun H p21 ws22 z d23 => ?_)
    replace z : Zs ([(p21, HO.lst ws22)] ++ (g_spots_ ++ (g_bag_ ++ amb))) H Ho := z
    have o24 := OL.mk (p := p21) d23
    refine l_o hw z o24 (fun ties_ v_ties_ g_ties_ z d_ties_ hw => ?_)
    refine y_for ?_
    refine k_iR1 ?_
    refine y_cons ?_
    refine y_call ?_
    refine y_cons ?_
    refine y_var rfl ?_
    refine y_cons ?_
    refine y_op ?_
    refine k_lst ?_
    refine y_cons ?_
    refine y_c ?_
    refine y_cons ?_
    refine y_c ?_
    refine y_nil ?_
    refine k_lstk (K := K) (xs := ([(13 : Int), (41 : Int)] : (List Int))) z (DqAll.cons (Dq.int _) (DqAll.cons (Dq.int _) DqAll.nil)) (by show 2 ≤ sizeLine; decide) (fun H p25 ws26 z d27 => ?_)
    replace z : Zs ([(p25, HO.lst ws26)] ++ (g_ties_ ++ (g_spots_ ++ (g_bag_ ++ amb)))) H Ho := z
    have o28 := OL.mk (p := p25) d27
    refine y_var rfl ?_
    refine y_ixL (OL.lv o28 mg0) z hw (fun t29 w d30 hw => ?_)
    first | obtain rfl := d_int d30 | cases d_int d30
    refine y_nil ?_
    replace z : Zs (g_bag_ ++ ([(p25, HO.lst ws26)] ++ (g_ties_ ++ (g_spots_ ++ amb)))) _ _ := z.go [[(p25, HO.lst ws26)], g_ties_, g_spots_, g_bag_] amb [3, 0, 1, 2]
    refine ⟨([(p25, HO.lst ws26)] ++ (g_ties_ ++ (g_spots_ ++ amb))), _, _, _, _, _, _, rfl, z, d_bag_, (Dq.int _), ?_⟩
    refine run_mono2 hw (fun t31 bag_ hw v g_bag_ H Ho e z d32 d_bag_ => ?_)
    replace d32 : Z.D K Ho v t31 := d32
    replace d_bag_ : OH K Ho v_bag_ bag_ g_bag_ := d_bag_
    replace d_counts_ := D.mo d_counts_ e
    replace d_spots_ := OD.mo d_spots_ e
    replace d_ties_ := OL.mo d_ties_ e
    have es34 := es20.trans e
    first | obtain rfl := d_int d32 | cases d_int d32
    refine y_nil ?_
    refine k_srcR1 (K := K) (Ho := Ho) hw.1 (fun J T => ?_)
    replace hw := (run_gd hw).2
    refine y_forL T hw (fun (s : (H5 (List Int) Int Int Int Int) × (List (P4 Int Int Int Int))) (σ : L2.St) (H Ho : Hp) => ∃ (g_bag_ : Grp) (g_ties_ : Grp) (y_step_ : Option V) (y_note_ : Option V) (y_along_ : Option V), σ = [some v_bag_, some (V.int great_), some (V.int mode_), some (V.int twice_), some v_counts_, some v_spots_, some v_ties_, y_step_, y_note_, y_along_] ∧ Zs (g_bag_ ++ ([(p25, HO.lst ws26)] ++ (g_ties_ ++ (g_spots_ ++ amb)))) H Ho ∧ OH K Ho v_bag_ s.1 g_bag_ ∧ OL K Ho v_ties_ s.2 g_ties_) ⟨_, _, _, _, _, rfl, z, d_bag_, d_ties_⟩ ?_ ?_ ?_ ?_
    · intro s σ H Ho hI
      obtain ⟨bag_, ties_⟩ := s
      obtain ⟨g_bag_, g_ties_, y_step_, y_note_, y_along_, rfl, z, d_bag_, d_ties_⟩ := hI
      exact ⟨_, z, mgN⟩
    · intro s σ H Ho H2 Ho2 hI e t
      obtain ⟨bag_, ties_⟩ := s
      obtain ⟨g_bag_, g_ties_, y_step_, y_note_, y_along_, rfl, z, d_bag_, d_ties_⟩ := hI
      exact ⟨_, _, _, _, _, rfl, t _ z, OH.mo d_bag_ e, OL.mo d_ties_ e⟩
    · intro step_ v_step_ s σ H Ho N e hI d_step_ hw
      obtain ⟨bag_, ties_⟩ := s
      obtain ⟨g_bag_, g_ties_, y_step_, y_note_, y_along_, rfl, z, d_bag_, d_ties_⟩ := hI
      replace d_counts_ := D.mo d_counts_ e
      replace d_spots_ := OD.mo d_spots_ e
      have es35 := es34.trans e
      obtain rfl := d_int d_step_
      refine y_gname (σ' := [some v_bag_, some (V.int great_), some (V.int mode_), some (V.int twice_), some v_counts_, some v_spots_, some v_ties_, some (V.int step_), y_note_, y_along_]) rfl ?_
      refine l_asg (fun v => [_, _, _, _, _, _, _, _, some v, _]) (fun _ => rfl) ?_
      refine y_call ?_
      refine y_cons ?_
      refine y_var rfl ?_
      refine y_cons ?_
      refine y_var rfl ?_
      refine y_nil ?_
      refine ⟨([(p25, HO.lst ws26)] ++ (g_ties_ ++ (g_spots_ ++ amb))), _, _, _, _, _, _, rfl, z, d_bag_, (LV.of d_counts_), ?_⟩
      refine run_mono2 hw (fun t36 bag_ hw v g_bag_ H Ho e z d37 d_bag_ => ?_)
      replace d37 : Z.D K Ho v t36 := d37
      replace d_bag_ : OH K Ho v_bag_ bag_ g_bag_ := d_bag_
      replace d_counts_ := D.mo d_counts_ e
      replace d_spots_ := OD.mo d_spots_ e
      replace d_ties_ := OL.mo d_ties_ e
      have es39 := (Same.refl _).trans e
      refine l_d (K := K) (Ho := Ho) hw d37 (fun note_ v_note_ d_note_ hw => ?_)
      refine l_asg (fun v => [_, _, _, _, _, _, _, _, _, some v]) (fun _ => rfl) ?_
      refine y_orV ?_
      refine y_op ?_
      refine y_var rfl ?_
      refine y_c ?_
      refine y_eqi ?_
      refine ⟨_, rfl, ?_⟩
      refine w_orVJ hw (fun (s : Bool × (H5 (List Int) Int Int Int Int)) (v : V) (H2 : Hp) => ∃ (Ho2 : Hp) (g_bag_ : Grp), Same Ho Ho2 ∧ OH K Ho2 v_bag_ s.2 g_bag_ ∧ Zs (g_bag_ ++ ([(p25, HO.lst ws26)] ++ (g_ties_ ++ (g_spots_ ++ amb)))) H2 Ho2 ∧ v = V.bl s.1) (fun hb hw => ?_) (fun hb hw => ?_) ?_
      · exact (run_ret hw) _ _ ⟨_, _, (Same.refl _), d_bag_, z, rfl⟩
      · refine y_andV ?_
        refine y_op ?_
        refine y_var rfl ?_
        refine y_c ?_
        refine y_eqi ?_
        refine ⟨_, rfl, ?_⟩
        refine w_andVJ hw (fun (s : Bool × (H5 (List Int) Int Int Int Int)) (v : V) (H2 : Hp) => ∃ (Ho2 : Hp) (g_bag_ : Grp), Same Ho Ho2 ∧ OH K Ho2 v_bag_ s.2 g_bag_ ∧ Zs (g_bag_ ++ ([(p25, HO.lst ws26)] ++ (g_ties_ ++ (g_spots_ ++ amb)))) H2 Ho2 ∧ v = V.bl s.1) (fun hb hw => ?_) (fun hb hw => ?_) ?_
        · refine y_op ?_
          refine y_call ?_
          refine y_cons ?_
          refine y_var rfl ?_
          refine y_cons ?_
          refine y_c ?_
          refine y_nil ?_
          refine ⟨([(p25, HO.lst ws26)] ++ (g_ties_ ++ (g_spots_ ++ amb))), _, _, _, _, _, _, rfl, z, d_bag_, (Dq.int _), ?_⟩
          refine run_mono2 hw (fun t40 bag_ hw v g_bag_ H Ho e z d41 d_bag_ => ?_)
          replace d41 : Z.D K Ho v t40 := d41
          replace d_bag_ : OH K Ho v_bag_ bag_ g_bag_ := d_bag_
          replace d_counts_ := D.mo d_counts_ e
          replace d_note_ := D.mo d_note_ e
          replace d_spots_ := OD.mo d_spots_ e
          replace d_ties_ := OL.mo d_ties_ e
          have es43 := (Same.refl _).trans e
          first | obtain rfl := d_int d41 | cases d_int d41
          refine y_c ?_
          refine y_i0 ?_
          exact (run_ret hw) _ _ ⟨_, _, es43, d_bag_, z, rfl⟩
        · exact (run_ret hw) _ _ ⟨_, _, (Same.refl _), d_bag_, z, rfl⟩
        rintro ⟨t44, bag_⟩ v H ⟨Ho, g_bag_, e, d_bag_, z, rfl⟩ hw
        replace d_counts_ := D.mo d_counts_ e
        replace d_note_ := D.mo d_note_ e
        replace d_spots_ := OD.mo d_spots_ e
        replace d_ties_ := OL.mo d_ties_ e
        have es47 := (Same.refl _).trans e
        exact (run_ret hw) _ _ ⟨_, _, es47, d_bag_, z, rfl⟩
      rintro ⟨t48, bag_⟩ v H ⟨Ho, g_bag_, e, d_bag_, z, rfl⟩ hw
      replace d_counts_ := D.mo d_counts_ e
      replace d_note_ := D.mo d_note_ e
      replace d_spots_ := OD.mo d_spots_ e
      replace d_ties_ := OL.mo d_ties_ e
      have es51 := es39.trans e
      refine l_b hw (fun along_ hw => ?_)
      refine y_ifS ?_
      refine y_test ?_
      refine y_op ?_
      refine y_var rfl ?_
      refine y_c ?_
      refine ⟨rfl, ?_⟩
      rw [dec_non d_note_ hw.1, not_isNone]
      replace hw := (run_gd hw).2
      refine ⟨_, rfl, ?_⟩
      refine w_ifJ hw (fun (s : (H5 (List Int) Int Int Int Int) × (List (P4 Int Int Int Int)) × (Option (P4 Int Int Int Int))) (σ : L2.St) (H : Hp) => ∃ Ho2, Same Ho Ho2 ∧ (fun (s : (H5 (List Int) Int Int Int Int) × (List (P4 Int Int Int Int)) × (Option (P4 Int Int Int Int))) (σ : L2.St) (H Ho : Hp) => ∃ (g_bag_ : Grp) (g_ties_ : Grp) (v_note_ : V), σ = [some v_bag_, some (V.int great_), some (V.int mode_), some (V.int twice_), some v_counts_, some v_spots_, some v_ties_, some (V.int step_), some v_note_, some (V.bl along_)] ∧ Zs (g_bag_ ++ ([(p25, HO.lst ws26)] ++ (g_ties_ ++ (g_spots_ ++ amb)))) H Ho ∧ OH K Ho v_bag_ s.1 g_bag_ ∧ OL K Ho v_ties_ s.2.1 g_ties_ ∧ Z.D K Ho v_note_ s.2.2) s σ H Ho2) (fun hb hw => ?_) (fun hb hw => ?_) ?_
      · refine y_ifS ?_
        refine y_and ?_
        refine y_tB ?_
        refine y_var rfl ?_
        refine ⟨_, rfl, ?_⟩
        refine w_andJ hw (fun (s : Bool) (v : Bool) (H2 : Hp) => ∃ (Ho2 : Hp), Same Ho Ho2 ∧ Zs (g_bag_ ++ ([(p25, HO.lst ws26)] ++ (g_ties_ ++ (g_spots_ ++ amb)))) H2 Ho2 ∧ v = s) (fun hb hw => ?_) (fun hb hw => ?_) ?_
        · refine y_test ?_
          refine y_op ?_
          refine y_dget ?_
          refine y_var rfl ?_
          refine y_sl ?_
          refine y_var rfl ?_
          refine y_get d_note_ hw (fun t52 d53 hw => ?_)
          refine y_noPart ?_
          refine y_part ?_
          refine y_c ?_
          refine ⟨_, rfl, ?_⟩
          refine y_slT (y := (t52.a, t52.b)) d53 z ⟨_, rfl, by show ¬ (HT.sIx 4 0 none = 0 ∧ HT.sIx 4 4 (some (2 : Int)) = 4); decide, by rfl⟩ (fun p H Ho e z d54 => ?_)
          replace d_bag_ := OH.mo d_bag_ e
          replace d_counts_ := D.mo d_counts_ e
          replace d_note_ := D.mo d_note_ e
          replace d_spots_ := OD.mo d_spots_ e
          replace d_ties_ := OL.mo d_ties_ e
          have es55 := (Same.refl _).trans e
          refine g_dget ⟨_, d_spots_, (mgS (mgS (mgS mg0)))⟩ z d54 hw (fun t56 w d57 hw => ?_)
          first | obtain rfl := d_int d57 | cases d_int d57
          refine y_dget ?_
          refine y_var rfl ?_
          refine y_sl ?_
          refine y_var rfl ?_
          refine y_get d_note_ hw (fun t58 d59 hw => ?_)
          refine y_part ?_
          refine y_c ?_
          refine ⟨_, rfl, ?_⟩
          refine y_noPart ?_
          refine y_slT (y := (t58.c, t58.d)) d59 z ⟨_, rfl, by show ¬ (HT.sIx 4 0 (some (2 : Int)) = 0 ∧ HT.sIx 4 4 none = 4); decide, by rfl⟩ (fun p H Ho e z d60 => ?_)
          replace d_bag_ := OH.mo d_bag_ e
          replace d_counts_ := D.mo d_counts_ e
          replace d_note_ := D.mo d_note_ e
          replace d_spots_ := OD.mo d_spots_ e
          replace d_ties_ := OL.mo d_ties_ e
          have es61 := es55.trans e
          refine g_dget ⟨_, d_spots_, (mgS (mgS (mgS mg0)))⟩ z d60 hw (fun t62 w d63 hw => ?_)
          first | obtain rfl := d_int d63 | cases d_int d63
          refine y_i0 ?_
          refine ⟨_, rfl, ?_⟩
          exact (run_ret hw) _ _ ⟨_, es61, z, rfl⟩
        · exact (run_ret hw) _ _ ⟨_, (Same.refl _), z, rfl⟩
        rintro t64 v H ⟨Ho, e, z, rfl⟩ hw
        replace d_bag_ := OH.mo d_bag_ e
        replace d_counts_ := D.mo d_counts_ e
        replace d_note_ := D.mo d_note_ e
        replace d_spots_ := OD.mo d_spots_ e
        replace d_ties_ := OL.mo d_ties_ e
        have es67 := (Same.refl _).trans e
        refine w_ifJ hw (fun (s : (Option (P4 Int Int Int Int))) (σ : L2.St) (H : Hp) => ∃ Ho2, Same Ho Ho2 ∧ (fun (s : (Option (P4 Int Int Int Int))) (σ : L2.St) (H Ho : Hp) => ∃ (v_note_ : V), σ = [some v_bag_, some (V.int great_), some (V.int mode_), some (V.int twice_), some v_counts_, some v_spots_, some v_ties_, some (V.int step_), some v_note_, some (V.bl along_)] ∧ Zs (g_bag_ ++ ([(p25, HO.lst ws26)] ++ (g_ties_ ++ (g_spots_ ++ amb)))) H Ho ∧ Z.D K Ho v_note_ s) s σ H Ho2) (fun hb hw => ?_) (fun hb hw => ?_) ?_
        · refine l_asg (fun v => [_, _, _, _, _, _, _, _, some v, _]) (fun _ => rfl) ?_
          refine y_op ?_
          refine y_sl ?_
          refine y_var rfl ?_
          refine y_get d_note_ hw (fun t68 d69 hw => ?_)
          refine y_part ?_
          refine y_c ?_
          refine ⟨_, rfl, ?_⟩
          refine y_noPart ?_
          refine y_slT (y := (t68.c, t68.d)) d69 z ⟨_, rfl, by show ¬ (HT.sIx 4 0 (some (2 : Int)) = 0 ∧ HT.sIx 4 4 none = 4); decide, by rfl⟩ (fun p H Ho e z d70 => ?_)
          replace d_bag_ := OH.mo d_bag_ e
          replace d_counts_ := D.mo d_counts_ e
          replace d_note_ := D.mo d_note_ e
          replace d_spots_ := OD.mo d_spots_ e
          replace d_ties_ := OL.mo d_ties_ e
          have es71 := (Same.refl _).trans e
          refine y_sl ?_
          refine y_var rfl ?_
          refine y_get d_note_ hw (fun t72 d73 hw => ?_)
          refine y_noPart ?_
          refine y_part ?_
          refine y_c ?_
          refine ⟨_, rfl, ?_⟩
          refine y_slT (y := (t72.a, t72.b)) d73 z ⟨_, rfl, by show ¬ (HT.sIx 4 0 none = 0 ∧ HT.sIx 4 4 (some (2 : Int)) = 4); decide, by rfl⟩ (fun p H Ho e z d74 => ?_)
          replace d_bag_ := OH.mo d_bag_ e
          replace d_counts_ := D.mo d_counts_ e
          replace d_note_ := D.mo d_note_ e
          replace d_spots_ := OD.mo d_spots_ e
          replace d_ties_ := OL.mo d_ties_ e
          replace d70 := D.mo d70 e
          have es75 := es71.trans e
          refine y_cat22 d70 d74 z (fun p H Ho e z d76 => ?_)
          replace d_bag_ := OH.mo d_bag_ e
          replace d_counts_ := D.mo d_counts_ e
          replace d_note_ := D.mo d_note_ e
          replace d_spots_ := OD.mo d_spots_ e
          replace d_ties_ := OL.mo d_ties_ e
          have es77 := es75.trans e
          refine l_d (K := K) (Ho := Ho) hw (show Z.D K Ho _ (some (⟨(t68.c, t68.d).1, (t68.c, t68.d).2, (t72.a, t72.b).1, (t72.a, t72.b).2⟩ : (P4 Int Int Int Int))) from d76) (fun note_ v_note_ d_note_ hw => ?_)
          exact (run_ret hw) _ _ ⟨_, es77, ⟨_, rfl, z, d_note_⟩⟩
        · refine y_nxS ?_
          exact (run_ret hw) _ _ ⟨_, (Same.refl _), ⟨_, rfl, z, d_note_⟩⟩
        rintro note_ σ H ⟨Ho, e, v_note_, rfl, z, d_note_⟩ hw
        replace d_bag_ := OH.mo d_bag_ e
        replace d_counts_ := D.mo d_counts_ e
        replace d_spots_ := OD.mo d_spots_ e
        replace d_ties_ := OL.mo d_ties_ e
        have es78 := es67.trans e
        refine y_drop ?_
        refine y_bm ?_
        refine y_var rfl ?_
        refine g_tyL (OL.lv d_ties_ (mgS (mgS mg0))) z ?_
        refine y_cons ?_
        refine y_call ?_
        refine y_cons ?_
        refine y_var rfl ?_
        refine y_cons ?_
        refine y_op ?_
        refine y_cb ?_
        refine y_cons ?_
        refine y_var rfl ?_
        refine y_nil ?_
        refine y_len (OL.lv d_ties_ (mgS (mgS mg0))) z ?_
        refine y_c ?_
        refine y_i0 ?_
        refine y_nil ?_
        refine ⟨([(p25, HO.lst ws26)] ++ (g_ties_ ++ (g_spots_ ++ amb))), _, _, _, _, _, _, rfl, z, d_bag_, (Dq.int _), ?_⟩
        refine run_mono2 hw (fun t79 bag_ hw v g_bag_ H Ho e z d80 d_bag_ => ?_)
        replace d80 : Z.D K Ho v t79 := d80
        replace d_bag_ : OH K Ho v_bag_ bag_ g_bag_ := d_bag_
        replace d_counts_ := D.mo d_counts_ e
        replace d_note_ := D.mo d_note_ e
        replace d_spots_ := OD.mo d_spots_ e
        replace d_ties_ := OL.mo d_ties_ e
        have es82 := es78.trans e
        first | obtain rfl := d_int d80 | cases d_int d80
        refine y_cons ?_
        refine y_var rfl ?_
        refine y_get d_note_ hw (fun t83 d84 hw => ?_)
        refine y_nil ?_
        replace z : Zs (g_ties_ ++ (g_bag_ ++ ([(p25, HO.lst ws26)] ++ (g_spots_ ++ amb)))) _ _ := z.go [g_bag_, [(p25, HO.lst ws26)], g_ties_, g_spots_] amb [2, 0, 1, 3]
        refine k_ins z d_ties_ d84 hw (fun ties_ g_ties_ H z d_ties_ hw => ?_)
        replace z : Zs (g_bag_ ++ ([(p25, HO.lst ws26)] ++ (g_ties_ ++ (g_spots_ ++ amb)))) _ _ := z.go [g_ties_, g_bag_, [(p25, HO.lst ws26)], g_spots_] amb [1, 2, 0, 3]
        exact (run_ret hw) _ _ ⟨_, es82, ⟨_, _, _, rfl, z, d_bag_, d_ties_, d_note_⟩⟩
      · refine y_nxS ?_
        exact (run_ret hw) _ _ ⟨_, (Same.refl _), ⟨_, _, _, rfl, z, d_bag_, d_ties_, d_note_⟩⟩
      rintro ⟨bag_, ties_, note_⟩ σ H ⟨Ho, e, g_bag_, g_ties_, v_note_, rfl, z, d_bag_, d_ties_, d_note_⟩ hw
      replace d_counts_ := D.mo d_counts_ e
      replace d_spots_ := OD.mo d_spots_ e
      have es85 := es51.trans e
      exact (run_ret hw) _ _ _ es85 ⟨_, _, _, _, _, rfl, z, d_bag_, d_ties_⟩
    intro s σ H Ho e hI hw
    obtain ⟨bag_, ties_⟩ := s
    obtain ⟨g_bag_, g_ties_, y_step_, y_note_, y_along_, rfl, z, d_bag_, d_ties_⟩ := hI
    replace d_counts_ := D.mo d_counts_ e
    replace d_spots_ := OD.mo d_spots_ e
    have es86 := es34.trans e
    replace z : Zs (g_bag_ ++ (g_ties_ ++ (g_spots_ ++ amb))) _ _ := z.go [g_bag_, [(p25, HO.lst ws26)], g_ties_, g_spots_] amb [0, 2, 3]
    refine y_ifS ?_
    refine y_and ?_
    refine y_test ?_
    refine y_op ?_
    refine y_var rfl ?_
    refine y_c ?_
    refine y_eqi ?_
    refine ⟨_, rfl, ?_⟩
    refine w_andJ hw (fun (s : Bool) (v : Bool) (H2 : Hp) => ∃ (Ho2 : Hp), Same Ho Ho2 ∧ Zs (g_bag_ ++ (g_ties_ ++ (g_spots_ ++ amb))) H2 Ho2 ∧ v = s) (fun hb hw => ?_) (fun hb hw => ?_) ?_
    · refine y_test ?_
      refine y_op ?_
      refine y_var rfl ?_
      refine k_lst ?_
      refine y_nil ?_
      refine k_lstk (K := K) (xs := ([] : (List (P4 Int Int Int Int)))) z DqAll.nil (by show 0 ≤ sizeLine; decide) (fun H p87 ws88 z d89 => ?_)
      replace z : Zs ([(p87, HO.lst ws88)] ++ (g_bag_ ++ (g_ties_ ++ (g_spots_ ++ amb)))) H Ho := z
      have o90 := OL.mk (p := p87) d89
      refine y_neD (LV.dp (OL.lv d_ties_ (mgS (mgS mg0))) z) (LV.dp (OL.lv o90 mg0) z) hw.1 ?_
      replace hw := (run_gd hw).2
      refine ⟨_, rfl, ?_⟩
      replace z : Zs (g_bag_ ++ (g_ties_ ++ (g_spots_ ++ amb))) _ _ := z.go [[(p87, HO.lst ws88)], g_bag_, g_ties_, g_spots_] amb [1, 2, 3]
      exact (run_ret hw) _ _ ⟨_, (Same.refl _), z, rfl⟩
    · exact (run_ret hw) _ _ ⟨_, (Same.refl _), z, rfl⟩
    rintro t91 v H ⟨Ho, e, z, rfl⟩ hw
    replace d_bag_ := OH.mo d_bag_ e
    replace d_counts_ := D.mo d_counts_ e
    replace d_spots_ := OD.mo d_spots_ e
    replace d_ties_ := OL.mo d_ties_ e
    have es94 := es86.trans e
    refine w_ifJ hw (fun (s : (H5 (List Int) Int Int Int Int) × (List (P4 Int Int Int Int))) (σ : L2.St) (H : Hp) => ∃ Ho2, Same Ho Ho2 ∧ (fun (s : (H5 (List Int) Int Int Int Int) × (List (P4 Int Int Int Int))) (σ : L2.St) (H Ho : Hp) => ∃ (g_bag_ : Grp) (g_ties_ : Grp), σ = [some v_bag_, some (V.int great_), some (V.int mode_), some (V.int twice_), some v_counts_, some v_spots_, some v_ties_, y_step_, y_note_, y_along_] ∧ Zs (g_bag_ ++ (g_ties_ ++ (g_spots_ ++ amb))) H Ho ∧ OH K Ho v_bag_ s.1 g_bag_ ∧ OL K Ho v_ties_ s.2 g_ties_) s σ H Ho2) (fun hb hw => ?_) (fun hb hw => ?_) ?_
    · refine y_drop ?_
      refine y_bm ?_
      refine y_var rfl ?_
      refine g_tyL (OL.lv d_ties_ (mgS mg0)) z ?_
      refine y_cons ?_
      refine y_call ?_
      refine y_cons ?_
      refine y_var rfl ?_
      refine y_cons ?_
      refine y_op ?_
      refine y_cb ?_
      refine y_cons ?_
      refine y_var rfl ?_
      refine y_nil ?_
      refine y_len (OL.lv d_ties_ (mgS mg0)) z ?_
      refine y_c ?_
      refine y_i0 ?_
      refine y_nil ?_
      refine ⟨(g_ties_ ++ (g_spots_ ++ amb)), _, _, _, _, _, _, rfl, z, d_bag_, (Dq.int _), ?_⟩
      refine run_mono2 hw (fun t95 bag_ hw v g_bag_ H Ho e z d96 d_bag_ => ?_)
      replace d96 : Z.D K Ho v t95 := d96
      replace d_bag_ : OH K Ho v_bag_ bag_ g_bag_ := d_bag_
      replace d_counts_ := D.mo d_counts_ e
      replace d_spots_ := OD.mo d_spots_ e
      replace d_ties_ := OL.mo d_ties_ e
      have es98 := (Same.refl _).trans e
      first | obtain rfl := d_int d96 | cases d_int d96
      refine y_cons ?_
      refine y_op ?_
      refine y_var rfl ?_
      refine y_call ?_
      refine y_cons ?_
      refine y_var rfl ?_
      refine y_cons ?_
      refine y_cb ?_
      refine y_cons ?_
      refine y_var rfl ?_
      refine y_nil ?_
      refine y_len (OL.lv d_ties_ (mgS mg0)) z ?_
      refine y_nil ?_
      refine ⟨(g_ties_ ++ (g_spots_ ++ amb)), _, _, _, _, _, _, rfl, z, d_bag_, (Dq.int _), ?_⟩
      refine run_mono2 hw (fun t99 bag_ hw v g_bag_ H Ho e z d100 d_bag_ => ?_)
      replace d100 : Z.D K Ho v t99 := d100
      replace d_bag_ : OH K Ho v_bag_ bag_ g_bag_ := d_bag_
      replace d_counts_ := D.mo d_counts_ e
      replace d_spots_ := OD.mo d_spots_ e
      replace d_ties_ := OL.mo d_ties_ e
      have es102 := es98.trans e
      first | obtain rfl := d_int d100 | cases d_int d100
      refine y_ixL (OL.lv d_ties_ (mgS mg0)) z hw (fun t103 w d104 hw => ?_)
      refine y_nil ?_
      replace z : Zs (g_ties_ ++ (g_bag_ ++ (g_spots_ ++ amb))) _ _ := z.go [g_bag_, g_ties_, g_spots_] amb [1, 0, 2]
      refine k_ins z d_ties_ d104 hw (fun ties_ g_ties_ H z d_ties_ hw => ?_)
      replace z : Zs (g_bag_ ++ (g_ties_ ++ (g_spots_ ++ amb))) _ _ := z.go [g_ties_, g_bag_, g_spots_] amb [1, 0, 2]
      exact (run_ret hw) _ _ ⟨_, es102, ⟨_, _, rfl, z, d_bag_, d_ties_⟩⟩
    · refine y_nxS ?_
      exact (run_ret hw) _ _ ⟨_, (Same.refl _), ⟨_, _, rfl, z, d_bag_, d_ties_⟩⟩
    rintro ⟨bag_, ties_⟩ σ H ⟨Ho, e, g_bag_, g_ties_, rfl, z, d_bag_, d_ties_⟩ hw
    replace d_counts_ := D.mo d_counts_ e
    replace d_spots_ := OD.mo d_spots_ e
    have es105 := es94.trans e
    refine y_ret ?_
    refine k_tup ?_
    refine y_cons ?_
    refine y_var rfl ?_
    refine y_cons ?_
    refine y_var rfl ?_
    refine y_nil ?_
    replace z : Zs (g_ties_ ++ (g_bag_ ++ (g_spots_ ++ amb))) _ _ := z.go [g_bag_, g_ties_, g_spots_] amb [1, 0, 2]
    refine l_fr d_ties_ z (fun Ho e z d_ties_ => ?_)
    replace d_bag_ := OH.mo d_bag_ e
    replace d_counts_ := D.mo d_counts_ e
    replace d_spots_ := OD.mo d_spots_ e
    have es106 := es105.trans e
    refine k_tupk (K := K) (x := (counts_, ties_)) z (by show 2 ≤ sizeLine; decide) _ rfl (DqAll.cons d_counts_ (DqAll.cons d_ties_ DqAll.nil)) (fun p H Ho e z d107 => ?_)
    replace d_bag_ := OH.mo d_bag_ e
    replace d_counts_ := D.mo d_counts_ e
    replace d_spots_ := OD.mo d_spots_ e
    replace d_ties_ := D.mo d_ties_ e
    have es108 := es106.trans e
    replace z : Zs (g_bag_ ++ amb) _ _ := z.go [g_bag_, g_spots_] amb [0]
    exact (run_ret hw) _ _ _ _ es108 z d107 d_bag_
def sp_law_copy (K : PySem.W.Frag) (cl : Nat → Addr) : Sp := fun vs H Q E => ∃ (amb : Grp) (Ho : Hp) (v0 : V) (x0 : ((List Int) × (List (P4 Int Int Int Int)))), vs = [v0] ∧ Zs amb H Ho ∧ Z.D K Ho v0 x0 ∧ (m_law_copy x0).run fun r => ∀ v H' Ho', Same Ho Ho' → Zs amb H' Ho' → Z.D K Ho' v r → Q v H'
abbrev s_law_copy : Stmt := topS 23
theorem sc_law_copy : FnScope ["record"] ["record"] (defScope s_law_copy) := ⟨rfl, rfl, rfl, by decide +kernel, rfl, by decide +kernel, by decide +kernel⟩
theorem ok_law_copy {f : Addr} {fd : FuncData} (F : Fun K "_law_copy" "_law_copy" s_law_copy f fd) (m_list : mg "list" = none) :
    FnOk P w K mg base CX0 1 f fd ["record"] (sp_law_copy K cl) := by
  refine F.ok sc_law_copy (fun vs H Q E h => ?_) (fun cdv A outer s H vs Q E hr h => ?_)
  · obtain ⟨amb, Ho, v_record_, record_, rfl, _⟩ := h
    rfl
  · obtain ⟨amb, Ho, v_record_, record_, rfl, z, d_record_, hw⟩ := h
    refine ⟨_, pss_cons (ps_ret (pe_tup (pa_cons (pe_callTy (zlist (K := K) rfl) (by rfl) m_list (by decide +kernel) (pa_cons (pe_ix (zix_tup (K := K) rfl) (pv 0) (pe_int) (fun _ _ => rfl)) (pa_nil))) (pa_cons (pe_callTy (zlist (K := K) rfl) (by rfl) m_list (by decide +kernel) (pa_cons (pe_ix (zix_tup (K := K) rfl) (pv 0) (pe_int) (fun _ _ => rfl)) (pa_nil))) (pa_nil))))) (pss_nil), ?_⟩
    refine y_ret ?_
    refine k_tup ?_
    refine y_cons ?_
    refine y_cb ?_
    refine y_cons ?_
    refine y_op ?_
    refine y_var rfl ?_
    refine y_c ?_
    refine y_ixT (y := record_.1) d_record_ z ⟨_, rfl, rfl⟩ (fun w d1 => ?_)
    refine y_nil ?_
    refine y_list (LV.of d1) z (fun H p2 ws3 z d4 => ?_)
    replace z : Zs ([(p2, HO.lst ws3)] ++ amb) H Ho := z
    have o5 := OL.mk (p := p2) d4
    refine y_cons ?_
    refine y_cb ?_
    refine y_cons ?_
    refine y_op ?_
    refine y_var rfl ?_
    refine y_c ?_
    refine y_ixT (y := record_.2) d_record_ z ⟨_, rfl, rfl⟩ (fun w d6 => ?_)
    refine y_nil ?_
    refine y_list (LV.of d6) z (fun H p7 ws8 z d9 => ?_)
    replace z : Zs ([(p7, HO.lst ws8)] ++ ([(p2, HO.lst ws3)] ++ amb)) H Ho := z
    have o10 := OL.mk (p := p7) d9
    refine y_nil ?_
    replace z : Zs ([(p2, HO.lst ws3)] ++ ([(p7, HO.lst ws8)] ++ amb)) _ _ := z.go [[(p7, HO.lst ws8)], [(p2, HO.lst ws3)]] amb [1, 0]
    refine l_fr o5 z (fun Ho e z d11 => ?_)
    replace d_record_ := D.mo d_record_ e
    replace o10 := OL.mo o10 e
    have es12 := (Same.refl _).trans e
    refine l_fr o10 z (fun Ho e z d13 => ?_)
    replace d_record_ := D.mo d_record_ e
    replace d11 := D.mo d11 e
    have es14 := es12.trans e
    refine k_tupk (K := K) (x := (record_.1, record_.2)) z (by show 2 ≤ sizeLine; decide) _ rfl (DqAll.cons d11 (DqAll.cons d13 DqAll.nil)) (fun p H Ho e z d15 => ?_)
    replace d_record_ := D.mo d_record_ e
    have es16 := es14.trans e
    exact (run_ret hw) _ _ _ es16 z d15
def sp_law_wide (K : PySem.W.Frag) (cl : Nat → Addr) : Sp := fun vs H Q E => ∃ (amb : Grp) (Ho : Hp) (v0 : V) (x0 : (H5 (List Int) Int Int Int Int)) (g0 : Grp), vs = [v0] ∧ Zs (g0 ++ amb) H Ho ∧ OH K Ho v0 x0 g0 ∧ (m_law_wide x0).run fun r => ∀ v h0 H' Ho', Same Ho Ho' → Zs (h0 ++ amb) H' Ho' → Z.D K Ho' v r.1 → OH K Ho' v0 r.2 h0 → Q v H'
abbrev s_law_wide : Stmt := topS 24
theorem sc_law_wide : FnScope ["bag", "size", "many", "counts", "turn", "ties"] ["bag"] (defScope s_law_wide) := ⟨rfl, rfl, rfl, by decide +kernel, rfl, by decide +kernel, by decide +kernel⟩
theorem ok_law_wide {f : Addr} {fd : FuncData} (F : Fun K "_law_wide" "_law_wide" s_law_wide f fd) {f_law_draw : Addr} {fd_law_draw : FuncData} (c_law_draw : Cal P w K mg base CX0 "_law_draw" ["bag", "many"] 2 (sp_law_draw K cl) f_law_draw fd_law_draw) {f_law_note : Addr} {fd_law_note : FuncData} (c_law_note : Cal P w K mg base CX0 "_law_note" ["bag", "counts"] 3 (sp_law_note K cl) f_law_note fd_law_note) (m_range : mg "range" = none) (m_len : mg "len" = none) :
    FnOk P w K mg base CX0 4 f fd ["bag"] (sp_law_wide K cl) := by
  refine F.ok sc_law_wide (fun vs H Q E h => ?_) (fun cdv A outer s H vs Q E hr h => ?_)
  · obtain ⟨amb, Ho, v_bag_, bag_, g_bag_, rfl, _⟩ := h
    rfl
  · obtain ⟨amb, Ho, v_bag_, bag_, g_bag_, rfl, z, d_bag_, hw⟩ := h
    refine ⟨_, pss_cons (ps_set (i := 1) sc_law_wide.nd rfl (Or.inl rfl) (pe_call c_law_draw.ok (hr.mono (by decide)) (by rfl) c_law_draw.g c_law_draw.kp c_law_draw.b .nil pass0 (pa_cons (pv 0) (pa_cons (pe_int) (pa_nil))))) (pss_cons (ps_set (i := 2) sc_law_wide.nd rfl (Or.inl rfl) (pe_call c_law_draw.ok (hr.mono (by decide)) (by rfl) c_law_draw.g c_law_draw.kp c_law_draw.b .nil pass0 (pa_cons (pv 0) (pa_cons (pe_int) (pa_nil))))) (pss_cons (ps_set (i := 3) sc_law_wide.nd rfl (Or.inr rfl) (pe_ix (zix_list (K := K) rfl) (pe_lst (pa_cons (pe_lst (pa_cons (pe_int) (pa_cons (pe_int) (pa_nil)))) (pa_cons (pe_lst (pa_cons (pe_int) (pa_cons (pe_int) (pa_nil)))) (pa_cons (pe_lst (pa_cons (pe_int) (pa_cons (pe_int) (pa_nil)))) (pa_cons (pe_lst (pa_cons (pe_int) (pa_cons (pe_int) (pa_cons (pe_int) (pa_nil))))) (pa_cons (pe_lst (pa_cons (pe_int) (pa_cons (pe_int) (pa_cons (pe_int) (pa_cons (pe_int) (pa_nil)))))) (pa_cons (pe_lst (pa_cons (pe_int) (pa_cons (pe_int) (pa_cons (pe_int) (pa_nil))))) (pa_cons (pe_lst (pa_cons (pe_int) (pa_cons (pe_int) (pa_cons (pe_int) (pa_cons (pe_int) (pa_cons (pe_int) (pa_nil))))))) (pa_cons (pe_lst (pa_cons (pe_int) (pa_cons (pe_int) (pa_nil)))) (pa_cons (pe_lst (pa_cons (pe_int) (pa_cons (pe_int) (pa_cons (pe_int) (pa_cons (pe_int) (pa_cons (pe_int) (pa_cons (pe_int) (pa_cons (pe_int) (pa_nil))))))))) (pa_cons (pe_lst (pa_cons (pe_int) (pa_cons (pe_int) (pa_cons (pe_int) (pa_cons (pe_int) (pa_cons (pe_int) (pa_cons (pe_int) (pa_nil)))))))) (pa_nil)))))))))))) (pv 1) (fun _ _ => rfl))) (pss_cons (ps_for PassesOwn.never rfl (pi_range1 (by rfl) m_range (pa_cons (pe_call c_law_draw.ok (hr.mono (by decide)) (by rfl) c_law_draw.g c_law_draw.kp c_law_draw.b .nil pass0 (pa_cons (pv 0) (pa_cons (pe_int) (pa_nil)))) (pa_nil))) (pg_name (i := 4) sc_law_wide.nd rfl (Or.inl rfl)) (pss_cons (ps_expr (pe_bm PySem.F.plainAttrs_list PySem.F.slot_list_append PySem.F.type_list_append mt_append (pv 3) (pa_cons (pe_bm PySem.F.plainAttrs_list PySem.F.slot_list_pop PySem.F.type_list_pop mt_popAt (pv 3) (pa_cons (pe_call c_law_draw.ok (hr.mono (by decide)) (by rfl) c_law_draw.g c_law_draw.kp c_law_draw.b .nil pass0 (pa_cons (pv 0) (pa_cons (pe_callB (zlen (K := K) rfl) (by rfl) m_len (by decide +kernel) (pa_cons (pv 3) (pa_nil))) (pa_nil)))) (pa_nil))) (pa_nil)))) (pss_nil))) (pss_cons (ps_setLc (i := 5) (own := [("turn", 4)]) rfl sc_law_wide.nd rfl rfl (sw_true rfl rfl rfl (by decide +kernel)) (pi_range1 (by rfl) m_range (pa_cons (pv 2) (pa_nil))) (blkOk_by (N := ["bag", "size", "many", "counts", "turn", "ties"]) (sc := defScope s_law_wide) (by decide +kernel)) (fun _ _ _ _ _ => pg_name (i := 4) sc_law_wide.nd rfl (Or.inl rfl)) (fun _ _ _ _ _ => pts_nil) (fun _ _ _ _ _ => pe_call c_law_note.ok (hr.mono (by decide)) (by rfl) c_law_note.g c_law_note.kp c_law_note.b .nil pass0 (pa_cons (pv 0) (pa_cons (pv 3) (pa_nil))))) (pss_cons (ps_ret (pe_tup (pa_cons (pv 3) (pa_cons (pv 5) (pa_nil))))) (pss_nil)))))), ?_⟩
    refine l_asg (fun v => [_, some v, _, _, _, _]) (fun _ => rfl) ?_
    refine y_call ?_
    refine y_cons ?_
    refine y_var rfl ?_
    refine y_cons ?_
    refine y_c ?_
    refine y_nil ?_
    refine ⟨amb, _, _, _, _, _, _, rfl, z, d_bag_, (Dq.int _), ?_⟩
    refine run_mono2 hw (fun t1 bag_ hw v g_bag_ H Ho e z d2 d_bag_ => ?_)
    replace d2 : Z.D K Ho v t1 := d2
    replace d_bag_ : OH K Ho v_bag_ bag_ g_bag_ := d_bag_
    have es4 := (Same.refl _).trans e
    first | obtain rfl := d_int d2 | cases d_int d2
    refine l_i hw (fun size_ hw => ?_)
    refine l_asg (fun v => [_, _, some v, _, _, _]) (fun _ => rfl) ?_
    refine y_call ?_
    refine y_cons ?_
    refine y_var rfl ?_
    refine y_cons ?_
    refine y_c ?_
    refine y_nil ?_
    refine ⟨amb, _, _, _, _, _, _, rfl, z, d_bag_, (Dq.int _), ?_⟩
    refine run_mono2 hw (fun t5 bag_ hw v g_bag_ H Ho e z d6 d_bag_ => ?_)
    replace d6 : Z.D K Ho v t5 := d6
    replace d_bag_ : OH K Ho v_bag_ bag_ g_bag_ := d_bag_
    have es8 := es4.trans e
    first | obtain rfl := d_int d6 | cases d_int d6
    refine l_i hw (fun many_ hw => ?_)
    refine l_asg (fun v => [_, _, _, some v, _, _]) (fun _ => rfl) ?_
    refine y_op ?_
    refine k_lst ?_
    refine y_cons ?_
    refine k_lst ?_
    refine y_cons ?_
    refine y_c ?_
    refine y_cons ?_
    refine y_c ?_
    refine y_nil ?_
    refine k_lstk (K := K) (xs := ([(39 : Int), (49 : Int)] : (List Int))) z (DqAll.cons (Dq.int _) (DqAll.cons (Dq.int _) DqAll.nil)) (by show 2 ≤ sizeLine; decide) (fun H p9 ws10 z d11 => ?_)
    replace z : Zs ([(p9, HO.lst ws10)] ++ (g_bag_ ++ amb)) H Ho := z
    have o12 := OL.mk (p := p9) d11
    refine y_cons ?_
    refine k_lst ?_
    refine y_cons ?_
    refine y_c ?_
    refine y_cons ?_
    refine y_c ?_
    refine y_nil ?_
    refine k_lstk (K := K) (xs := ([(28 : Int), (68 : Int)] : (List Int))) z (DqAll.cons (Dq.int _) (DqAll.cons (Dq.int _) DqAll.nil)) (by show 2 ≤ sizeLine; decide) (fun H p13 ws14 z d15 => ?_)
    replace z : Zs ([(p13, HO.lst ws14)] ++ ([(p9, HO.lst ws10)] ++ (g_bag_ ++ amb))) H Ho := z
    have o16 := OL.mk (p := p13) d15
    refine y_cons ?_
    refine k_lst ?_
    refine y_cons ?_
    refine y_c ?_
    refine y_cons ?_
    refine y_c ?_
    refine y_nil ?_
    refine k_lstk (K := K) (xs := ([(24 : Int), (79 : Int)] : (List Int))) z (DqAll.cons (Dq.int _) (DqAll.cons (Dq.int _) DqAll.nil)) (by show 2 ≤ sizeLine; decide) (fun H p17 ws18 z d19 => ?_)
    replace z : Zs ([(p17, HO.lst ws18)] ++ ([(p13, HO.lst ws14)] ++ ([(p9, HO.lst ws10)] ++ (g_bag_ ++ amb)))) H Ho := z
    have o20 := OL.mk (p := p17) d19
    refine y_cons ?_
    refine k_lst ?_
    refine y_cons ?_
    refine y_c ?_
    refine y_cons ?_
    refine y_c ?_
    refine y_cons ?_
    refine y_c ?_
    refine y_nil ?_
    refine k_lstk (K := K) (xs := ([(4 : Int), (19 : Int), (19 : Int)] : (List Int))) z (DqAll.cons (Dq.int _) (DqAll.cons (Dq.int _) (DqAll.cons (Dq.int _) DqAll.nil))) (by show 3 ≤ sizeLine; decide) (fun H p21 ws22 z d23 => ?_)
    replace z : Zs ([(p21, HO.lst ws22)] ++ ([(p17, HO.lst ws18)] ++ ([(p13, HO.lst ws14)] ++ ([(p9, HO.lst ws10)] ++ (g_bag_ ++ amb))))) H Ho := z
    have o24 := OL.mk (p := p21) d23
    refine y_cons ?_
    refine k_lst ?_
    refine y_cons ?_
    refine y_c ?_
    refine y_cons ?_
    refine y_c ?_
    refine y_cons ?_
    refine y_c ?_
    refine y_cons ?_
    refine y_c ?_
    refine y_nil ?_
    refine k_lstk (K := K) (xs := ([(1 : Int), (9 : Int), (9 : Int), (9 : Int)] : (List Int))) z (DqAll.cons (Dq.int _) (DqAll.cons (Dq.int _) (DqAll.cons (Dq.int _) (DqAll.cons (Dq.int _) DqAll.nil)))) (by show 4 ≤ sizeLine; decide) (fun H p25 ws26 z d27 => ?_)
    replace z : Zs ([(p25, HO.lst ws26)] ++ ([(p21, HO.lst ws22)] ++ ([(p17, HO.lst ws18)] ++ ([(p13, HO.lst ws14)] ++ ([(p9, HO.lst ws10)] ++ (g_bag_ ++ amb)))))) H Ho := z
    have o28 := OL.mk (p := p25) d27
    refine y_cons ?_
    refine k_lst ?_
    refine y_cons ?_
    refine y_c ?_
    refine y_cons ?_
    refine y_c ?_
    refine y_cons ?_
    refine y_c ?_
    refine y_nil ?_
    refine k_lstk (K := K) (xs := ([(2 : Int), (22 : Int), (28 : Int)] : (List Int))) z (DqAll.cons (Dq.int _) (DqAll.cons (Dq.int _) (DqAll.cons (Dq.int _) DqAll.nil))) (by show 3 ≤ sizeLine; decide) (fun H p29 ws30 z d31 => ?_)
    replace z : Zs ([(p29, HO.lst ws30)] ++ ([(p25, HO.lst ws26)] ++ ([(p21, HO.lst ws22)] ++ ([(p17, HO.lst ws18)] ++ ([(p13, HO.lst ws14)] ++ ([(p9, HO.lst ws10)] ++ (g_bag_ ++ amb))))))) H Ho := z
    have o32 := OL.mk (p := p29) d31
    refine y_cons ?_
    refine k_lst ?_
    refine y_cons ?_
    refine y_c ?_
    refine y_cons ?_
    refine y_c ?_
    refine y_cons ?_
    refine y_c ?_
    refine y_cons ?_
    refine y_c ?_
    refine y_cons ?_
    refine y_c ?_
    refine y_nil ?_
    refine k_lstk (K := K) (xs := ([(1 : Int), (1 : Int), (4 : Int), (9 : Int), (9 : Int)] : (List Int))) z (DqAll.cons (Dq.int _) (DqAll.cons (Dq.int _) (DqAll.cons (Dq.int _) (DqAll.cons (Dq.int _) (DqAll.cons (Dq.int _) DqAll.nil))))) (by show 5 ≤ sizeLine; decide) (fun H p33 ws34 z d35 => ?_)
    replace z : Zs ([(p33, HO.lst ws34)] ++ ([(p29, HO.lst ws30)] ++ ([(p25, HO.lst ws26)] ++ ([(p21, HO.lst ws22)] ++ ([(p17, HO.lst ws18)] ++ ([(p13, HO.lst ws14)] ++ ([(p9, HO.lst ws10)] ++ (g_bag_ ++ amb)))))))) H Ho := z
    have o36 := OL.mk (p := p33) d35
    refine y_cons ?_
    refine k_lst ?_
    refine y_cons ?_
    refine y_c ?_
    refine y_cons ?_
    refine y_c ?_
    refine y_nil ?_
    refine k_lstk (K := K) (xs := ([(9 : Int), (199 : Int)] : (List Int))) z (DqAll.cons (Dq.int _) (DqAll.cons (Dq.int _) DqAll.nil)) (by show 2 ≤ sizeLine; decide) (fun H p37 ws38 z d39 => ?_)
    replace z : Zs ([(p37, HO.lst ws38)] ++ ([(p33, HO.lst ws34)] ++ ([(p29, HO.lst ws30)] ++ ([(p25, HO.lst ws26)] ++ ([(p21, HO.lst ws22)] ++ ([(p17, HO.lst ws18)] ++ ([(p13, HO.lst ws14)] ++ ([(p9, HO.lst ws10)] ++ (g_bag_ ++ amb))))))))) H Ho := z
    have o40 := OL.mk (p := p37) d39
    refine y_cons ?_
    refine k_lst ?_
    refine y_cons ?_
    refine y_c ?_
    refine y_cons ?_
    refine y_c ?_
    refine y_cons ?_
    refine y_c ?_
    refine y_cons ?_
    refine y_c ?_
    refine y_cons ?_
    refine y_c ?_
    refine y_cons ?_
    refine y_c ?_
    refine y_cons ?_
    refine y_c ?_
    refine y_nil ?_
    refine k_lstk (K := K) (xs := ([(1 : Int), (1 : Int), (1 : Int), (1 : Int), (4 : Int), (4 : Int), (4 : Int)] : (List Int))) z (DqAll.cons (Dq.int _) (DqAll.cons (Dq.int _) (DqAll.cons (Dq.int _) (DqAll.cons (Dq.int _) (DqAll.cons (Dq.int _) (DqAll.cons (Dq.int _) (DqAll.cons (Dq.int _) DqAll.nil))))))) (by show 7 ≤ sizeLine; decide) (fun H p41 ws42 z d43 => ?_)
    replace z : Zs ([(p41, HO.lst ws42)] ++ ([(p37, HO.lst ws38)] ++ ([(p33, HO.lst ws34)] ++ ([(p29, HO.lst ws30)] ++ ([(p25, HO.lst ws26)] ++ ([(p21, HO.lst ws22)] ++ ([(p17, HO.lst ws18)] ++ ([(p13, HO.lst ws14)] ++ ([(p9, HO.lst ws10)] ++ (g_bag_ ++ amb)))))))))) H Ho := z
    have o44 := OL.mk (p := p41) d43
    refine y_cons ?_
    refine k_lst ?_
    refine y_cons ?_
    refine y_c ?_
    refine y_cons ?_
    refine y_c ?_
    refine y_cons ?_
    refine y_c ?_
    refine y_cons ?_
    refine y_c ?_
    refine y_cons ?_
    refine y_c ?_
    refine y_cons ?_
    refine y_c ?_
    refine y_nil ?_
    refine k_lstk (K := K) (xs := ([(2 : Int), (2 : Int), (2 : Int), (2 : Int), (4 : Int), (4 : Int)] : (List Int))) z (DqAll.cons (Dq.int _) (DqAll.cons (Dq.int _) (DqAll.cons (Dq.int _) (DqAll.cons (Dq.int _) (DqAll.cons (Dq.int _) (DqAll.cons (Dq.int _) DqAll.nil)))))) (by show 6 ≤ sizeLine; decide) (fun H p45 ws46 z d47 => ?_)
    replace z : Zs ([(p45, HO.lst ws46)] ++ ([(p41, HO.lst ws42)] ++ ([(p37, HO.lst ws38)] ++ ([(p33, HO.lst ws34)] ++ ([(p29, HO.lst ws30)] ++ ([(p25, HO.lst ws26)] ++ ([(p21, HO.lst ws22)] ++ ([(p17, HO.lst ws18)] ++ ([(p13, HO.lst ws14)] ++ ([(p9, HO.lst ws10)] ++ (g_bag_ ++ amb))))))))))) H Ho := z
    have o48 := OL.mk (p := p45) d47
    refine y_nil ?_
    replace z : Zs ([(p9, HO.lst ws10)] ++ ([(p13, HO.lst ws14)] ++ ([(p17, HO.lst ws18)] ++ ([(p21, HO.lst ws22)] ++ ([(p25, HO.lst ws26)] ++ ([(p29, HO.lst ws30)] ++ ([(p33, HO.lst ws34)] ++ ([(p37, HO.lst ws38)] ++ ([(p41, HO.lst ws42)] ++ ([(p45, HO.lst ws46)] ++ (g_bag_ ++ amb))))))))))) _ _ := z.go [[(p45, HO.lst ws46)], [(p41, HO.lst ws42)], [(p37, HO.lst ws38)], [(p33, HO.lst ws34)], [(p29, HO.lst ws30)], [(p25, HO.lst ws26)], [(p21, HO.lst ws22)], [(p17, HO.lst ws18)], [(p13, HO.lst ws14)], [(p9, HO.lst ws10)], g_bag_] amb [9, 8, 7, 6, 5, 4, 3, 2, 1, 0, 10]
    refine k_lstO (P := OL) (xs := ([([(39 : Int), (49 : Int)] : (List Int)), ([(28 : Int), (68 : Int)] : (List Int)), ([(24 : Int), (79 : Int)] : (List Int)), ([(4 : Int), (19 : Int), (19 : Int)] : (List Int)), ([(1 : Int), (9 : Int), (9 : Int), (9 : Int)] : (List Int)), ([(2 : Int), (22 : Int), (28 : Int)] : (List Int)), ([(1 : Int), (1 : Int), (4 : Int), (9 : Int), (9 : Int)] : (List Int)), ([(9 : Int), (199 : Int)] : (List Int)), ([(1 : Int), (1 : Int), (1 : Int), (1 : Int), (4 : Int), (4 : Int), (4 : Int)] : (List Int)), ([(2 : Int), (2 : Int), (2 : Int), (2 : Int), (4 : Int), (4 : Int)] : (List Int))] : (List (List Int)))) (.cons o12 (.cons o16 (.cons o20 (.cons o24 (.cons o28 (.cons o32 (.cons o36 (.cons o40 (.cons o44 (.cons o48 .nil)))))))))) (by simpa [List.append_assoc] using z) (by show 10 ≤ sizeLine; decide) (fun p49 g50 H z o51 => ?_)
    refine y_var rfl ?_
    refine y_ixOwn o51 z hw (fun t52 u53 g54 gh55 z d56 hw => ?_)
    replace z : Zs (g54 ++ (g_bag_ ++ amb)) _ _ := z.go [g54, gh55, g_bag_] amb [0, 2]
    refine l_o hw z d56 (fun counts_ v_counts_ g_counts_ z d_counts_ hw => ?_)
    refine y_for ?_
    refine k_iR1 ?_
    refine y_cons ?_
    refine y_call ?_
    refine y_cons ?_
    refine y_var rfl ?_
    refine y_cons ?_
    refine y_c ?_
    refine y_nil ?_
    replace z : Zs (g_bag_ ++ (g_counts_ ++ amb)) _ _ := z.go [g_counts_, g_bag_] amb [1, 0]
    refine ⟨(g_counts_ ++ amb), _, _, _, _, _, _, rfl, z, d_bag_, (Dq.int _), ?_⟩
    refine run_mono2 hw (fun t57 bag_ hw v g_bag_ H Ho e z d58 d_bag_ => ?_)
    replace d58 : Z.D K Ho v t57 := d58
    replace d_bag_ : OH K Ho v_bag_ bag_ g_bag_ := d_bag_
    replace d_counts_ := OL.mo d_counts_ e
    have es60 := es8.trans e
    first | obtain rfl := d_int d58 | cases d_int d58
    refine y_nil ?_
    refine k_srcR1 (K := K) (Ho := Ho) hw.1 (fun J T => ?_)
    replace hw := (run_gd hw).2
    refine y_forL T hw (fun (s : (H5 (List Int) Int Int Int Int) × (List Int)) (σ : L2.St) (H Ho : Hp) => ∃ (g_bag_ : Grp) (g_counts_ : Grp) (y_turn_ : Option V), σ = [some v_bag_, some (V.int size_), some (V.int many_), some v_counts_, y_turn_, none] ∧ Zs (g_bag_ ++ (g_counts_ ++ amb)) H Ho ∧ OH K Ho v_bag_ s.1 g_bag_ ∧ OL K Ho v_counts_ s.2 g_counts_) ⟨_, _, _, rfl, z, d_bag_, d_counts_⟩ ?_ ?_ ?_ ?_
    · intro s σ H Ho hI
      obtain ⟨bag_, counts_⟩ := s
      obtain ⟨g_bag_, g_counts_, y_turn_, rfl, z, d_bag_, d_counts_⟩ := hI
      exact ⟨_, z, mgN⟩
    · intro s σ H Ho H2 Ho2 hI e t
      obtain ⟨bag_, counts_⟩ := s
      obtain ⟨g_bag_, g_counts_, y_turn_, rfl, z, d_bag_, d_counts_⟩ := hI
      exact ⟨_, _, _, rfl, t _ z, OH.mo d_bag_ e, OL.mo d_counts_ e⟩
    · intro turn_ v_turn_ s σ H Ho N e hI d_turn_ hw
      obtain ⟨bag_, counts_⟩ := s
      obtain ⟨g_bag_, g_counts_, y_turn_, rfl, z, d_bag_, d_counts_⟩ := hI
      have es61 := es60.trans e
      obtain rfl := d_int d_turn_
      refine y_gname (σ' := [some v_bag_, some (V.int size_), some (V.int many_), some v_counts_, some (V.int turn_), none]) rfl ?_
      refine y_drop ?_
      refine y_bm ?_
      refine y_var rfl ?_
      refine g_tyL (OL.lv d_counts_ (mgS mg0)) z ?_
      refine y_cons ?_
      refine y_bm ?_
      refine y_var rfl ?_
      refine g_tyL (OL.lv d_counts_ (mgS mg0)) z ?_
      refine y_cons ?_
      refine y_call ?_
      refine y_cons ?_
      refine y_var rfl ?_
      refine y_cons ?_
      refine y_cb ?_
      refine y_cons ?_
      refine y_var rfl ?_
      refine y_nil ?_
      refine y_len (OL.lv d_counts_ (mgS mg0)) z ?_
      refine y_nil ?_
      refine ⟨(g_counts_ ++ amb), _, _, _, _, _, _, rfl, z, d_bag_, (Dq.int _), ?_⟩
      refine run_mono2 hw (fun t62 bag_ hw v g_bag_ H Ho e z d63 d_bag_ => ?_)
      replace d63 : Z.D K Ho v t62 := d63
      replace d_bag_ : OH K Ho v_bag_ bag_ g_bag_ := d_bag_
      replace d_counts_ := OL.mo d_counts_ e
      have es65 := (Same.refl _).trans e
      first | obtain rfl := d_int d63 | cases d_int d63
      refine y_nil ?_
      replace z : Zs (g_counts_ ++ (g_bag_ ++ amb)) _ _ := z.go [g_bag_, g_counts_] amb [1, 0]
      refine g_popI z d_counts_ hw (fun t66 counts_ w g_counts_ H z d_counts_ d67 hw => ?_)
      first | obtain rfl := d_int d67 | cases d_int d67
      refine y_nil ?_
      refine g_app z d_counts_ (Dq.int _) hw (fun counts_ g_counts_ H z d_counts_ hw => ?_)
      replace z : Zs (g_bag_ ++ (g_counts_ ++ amb)) _ _ := z.go [g_counts_, g_bag_] amb [1, 0]
      exact (run_ret hw) _ _ _ es65 ⟨_, _, _, rfl, z, d_bag_, d_counts_⟩
    intro s σ H Ho e hI hw
    obtain ⟨bag_, counts_⟩ := s
    obtain ⟨g_bag_, g_counts_, y_turn_, rfl, z, d_bag_, d_counts_⟩ := hI
    have es68 := es60.trans e
    refine l_asg (fun v => [_, _, _, _, _, some v]) (fun _ => rfl) ?_
    refine y_lc ?_
    refine k_iR1 ?_
    refine y_cons ?_
    refine y_var rfl ?_
    refine y_nil ?_
    refine k_srcR1 (K := K) (Ho := Ho) hw.1 (fun J T => ?_)
    replace hw := (run_gd hw).2
    refine y_lcS z T hw (fun (r69 : Addr × HO) (s : (H5 (List Int) Int Int Int Int)) (H2 Ho2 : Hp) => ∃ (g_bag_ : Grp), OH K Ho2 v_bag_ s g_bag_ ∧ Zs ([r69] ++ (g_bag_ ++ (g_counts_ ++ amb))) H2 Ho2) (fun r H z => ⟨_, d_bag_, z⟩) ?_ ?_ ?_ ?_ ?_
    · rintro r s H Ho ⟨g_bag_, d_bag_, z⟩
      exact ⟨_, z, fun r m => mgN r m⟩
    · rintro r s H Ho H2 Ho2 ⟨g_bag_, d_bag_, z⟩ e t
      exact ⟨_, OH.mo d_bag_ e, t _ z⟩
    · rintro p o o' s H Ho hn ⟨g_bag_, d_bag_, z⟩
      exact ⟨_, d_bag_, Zs.put z hn⟩
    · intro r69 turn_ v_turn_ bag_ H Ho N N' e hI d_turn_ hw
      obtain ⟨g_bag_, d_bag_, z⟩ := hI
      replace d_counts_ := OL.mo d_counts_ e
      have es70 := es68.trans e
      obtain rfl := d_int d_turn_
      refine y_gname (σ' := [some v_bag_, some (V.int size_), some (V.int many_), some v_counts_, some (V.int turn_), none]) rfl ?_
      refine ⟨rfl, ?_⟩
      refine y_yes (w_t ?_)
      refine y_call ?_
      refine y_cons ?_
      refine y_var rfl ?_
      refine y_cons ?_
      refine y_var rfl ?_
      refine y_nil ?_
      replace z : Zs (g_bag_ ++ ([r69] ++ (g_counts_ ++ amb))) _ _ := z.go [[r69], g_bag_, g_counts_] amb [1, 0, 2]
      refine ⟨([r69] ++ (g_counts_ ++ amb)), _, _, _, _, _, _, rfl, z, d_bag_, (OL.lv d_counts_ (mgS mg0)), ?_⟩
      refine run_mono2 hw (fun t71 bag_ hw v g_bag_ H Ho e z d72 d_bag_ => ?_)
      replace d72 : Z.D K Ho v t71 := d72
      replace d_bag_ : OH K Ho v_bag_ bag_ g_bag_ := d_bag_
      replace d_counts_ := OL.mo d_counts_ e
      have es74 := (Same.refl _).trans e
      replace z : Zs ([r69] ++ (g_bag_ ++ (g_counts_ ++ amb))) _ _ := z.go [g_bag_, [r69], g_counts_] amb [1, 0, 2]
      exact (run_ret hw) _ _ _ es74 ⟨_, d_bag_, z⟩ d72
    rintro t78 bag_ p75 ws76 H Ho e ⟨g_bag_, d_bag_, z⟩ d77 hw
    replace d_counts_ := OL.mo d_counts_ e
    have es79 := es68.trans e
    replace z : Zs ([(p75, HO.lst ws76)] ++ (g_bag_ ++ (g_counts_ ++ amb))) H Ho := z
    have o80 := OL.mk (p := p75) d77
    refine l_fr o80 z (fun Ho e z d81 => ?_)
    replace d_bag_ := OH.mo d_bag_ e
    replace d_counts_ := OL.mo d_counts_ e
    have es82 := es79.trans e
    refine l_d (K := K) (Ho := Ho) hw d81 (fun ties_ v_ties_ d_ties_ hw => ?_)
    refine y_ret ?_
    refine k_tup ?_
    refine y_cons ?_
    refine y_var rfl ?_
    refine y_cons ?_
    refine y_var rfl ?_
    refine y_getAll d_ties_ hw (fun t83 d84 hw => ?_)
    refine y_nil ?_
    replace z : Zs (g_counts_ ++ (g_bag_ ++ amb)) _ _ := z.go [g_bag_, g_counts_] amb [1, 0]
    refine l_fr d_counts_ z (fun Ho e z d_counts_ => ?_)
    replace d_bag_ := OH.mo d_bag_ e
    replace d_ties_ := D.mo d_ties_ e
    replace d84 := D.mo d84 e
    have es85 := es82.trans e
    refine k_tupk (K := K) (x := (counts_, t83)) z (by show 2 ≤ sizeLine; decide) _ rfl (DqAll.cons d_counts_ (DqAll.cons d84 DqAll.nil)) (fun p H Ho e z d86 => ?_)
    replace d_bag_ := OH.mo d_bag_ e
    replace d_counts_ := D.mo d_counts_ e
    replace d_ties_ := D.mo d_ties_ e
    have es87 := es85.trans e
    exact (run_ret hw) _ _ _ _ es87 z d86 d_bag_
def sp_law_layer (K : PySem.W.Frag) (cl : Nat → Addr) : Sp := fun vs H Q E => ∃ (amb : Grp) (Ho : Hp) (v0 : V) (x0 : ((List Int) × (List (P4 Int Int Int Int)))) (v1 : V) (x1 : (Dc (Tp Int) Int)), vs = [v0, v1] ∧ Zs amb H Ho ∧ Z.D K Ho v0 x0 ∧ BD K amb Ho v1 x1 ∧ (m_law_layer x0 x1).run fun r => ∀ v g H' Ho', Same Ho Ho' → Zs (g ++ amb) H' Ho' → OD K Ho' v r g → Q v H'
abbrev s_law_layer : Stmt := topS 25
theorem sc_law_layer : FnScope ["record", "here", "counts", "ties", "there", "now", "held", "tie", "hand", "after", "k"] ["record", "here"] (defScope s_law_layer) := ⟨rfl, rfl, rfl, by decide +kernel, rfl, by decide +kernel, by decide +kernel⟩
theorem ok_law_layer {f : Addr} {fd : FuncData} (F : Fun K "_law_layer" "_law_layer" s_law_layer f fd) (m_sorted : mg "sorted" = none) (m_len : mg "len" = none) (m_range : mg "range" = none) (m_int : mg "int" = none) (m_tuple : mg "tuple" = none) :
    FnOk P w K mg base CX0 1 f fd ["record", "here"] (sp_law_layer K cl) := by
  refine F.ok sc_law_layer (fun vs H Q E h => ?_) (fun cdv A outer s H vs Q E hr h => ?_)
  · obtain ⟨amb, Ho, v_record_, record_, v_here_, here_, rfl, _⟩ := h
    rfl
  · obtain ⟨amb, Ho, v_record_, record_, v_here_, here_, rfl, z, d_record_, d_here_, hw⟩ := h
    refine ⟨_, pss_cons (ps_asg (pv 0) (zpg_tup (K := K) (n := 2) rfl rfl (pgs_cons (pg_name (i := 2) sc_law_layer.nd rfl (Or.inl rfl)) (pgs_cons (pg_name (i := 3) sc_law_layer.nd rfl (Or.inl rfl)) (pgs_nil))))) (pss_cons (ps_set (i := 4) sc_law_layer.nd rfl (Or.inl rfl) (pe_dnewT)) (pss_cons (ps_for PassesOwn.never rfl (zpi_list (K := K) rfl (pe_callB (zsortDT (K := K) rfl) (by rfl) m_sorted (by decide +kernel) (pa_cons (pv 1) (pa_nil)))) (pg_name (i := 5) sc_law_layer.nd rfl (Or.inr rfl)) (pss_cons (ps_setLc (i := 6) (own := [("tie", 7)]) rfl sc_law_layer.nd rfl rfl (sw_true rfl rfl rfl (by decide +kernel)) (zpi_list (K := K) rfl (pv 3)) (blkOk_by (N := ["record", "here", "counts", "ties", "there", "now", "held", "tie", "hand", "after", "k"]) (sc := defScope s_law_layer) (by decide +kernel)) (fun _ _ _ _ _ => pg_name (i := 7) sc_law_layer.nd rfl (Or.inl rfl)) (fun _ _ _ _ _ => pts_one (PW.pt (pw_and (pt_cmpR (op_eq) (pe_ix (zix_tup (K := K) rfl) (pv 7) (pe_int) (fun _ _ => rfl)) (pe_ix (zix_tup (K := K) rfl) (pv 5) (pe_ix (zix_tup (K := K) rfl) (pv 7) (pe_int) (fun _ _ => rfl)) (fun _ _ => rfl)) (nomark _)) (pw_and1 (pt_cmpR (op_ge) (pe_ix (zix_tup (K := K) rfl) (pv 7) (pe_int) (fun _ _ => rfl)) (pe_ix (zix_tup (K := K) rfl) (pv 5) (pe_ix (zix_tup (K := K) rfl) (pv 7) (pe_int) (fun _ _ => rfl)) (fun _ _ => rfl)) (nomark _)))))) (fun _ _ _ _ _ => pe_ix (zix_tup (K := K) rfl) (pv 7) (pe_int) (fun _ _ => rfl))) (pss_cons (ps_for PassesOwn.never rfl (pi_range1 (by rfl) m_range (pa_cons (pe_callB (zlen (K := K) rfl) (by rfl) m_len (by decide +kernel) (pa_cons (pv 2) (pa_nil))) (pa_nil))) (pg_name (i := 8) sc_law_layer.nd rfl (Or.inr rfl)) (pss_cons (ps_if (PW.pt (pw_and (pt_cmpR (op_lt) (pe_ix (zix_tup (K := K) rfl) (pv 5) (pv 8) (fun _ _ => rfl)) (pe_ix (zix_list (K := K) rfl) (pv 2) (pv 8) (fun _ _ => rfl)) (nomark _)) (pw_and1 (pt_cmpR (zop_notInD (K := K) rfl (room65 hr)) (pv 8) (pv 6) rfl)))) (pss_cons (ps_set (i := 9) sc_law_layer.nd rfl (Or.inl rfl) (pe_callTy (ztupL (K := K) rfl) (by rfl) m_tuple (by decide +kernel) (pa_cons (pe_lc (own := [("k", 10)]) rfl sc_law_layer.nd (pi_range1 (by rfl) m_range (pa_cons (pe_callB (zlen (K := K) rfl) (by rfl) m_len (by decide +kernel) (pa_cons (pv 2) (pa_nil))) (pa_nil))) (blkOk_by (N := ["record", "here", "counts", "ties", "there", "now", "held", "tie", "hand", "after", "k"]) (sc := defScope s_law_layer) (by decide +kernel)) (fun _ _ _ _ _ => pg_name (i := 10) sc_law_layer.nd rfl (Or.inl rfl)) (fun _ _ _ _ _ => pts_nil) (fun _ _ _ _ _ => pe_op op_add (pe_ix (zix_tup (K := K) rfl) (pv 5) (pv 10) (fun _ _ => rfl)) (pe_callTy call_int1 (by rfl) m_int (by decide +kernel) (pa_cons (pe_cmpR (op_eq) (pv 10) (pv 8) (nomark _)) (pa_nil))))) (pa_nil)))) (pss_cons (ps_dput (room1 hr) (pv 4) (pv 9) (pe_op op_add (pe_dget2 (room1 hr) (pv 4) (pv 9) (pe_int) ⟨by rfl, by rfl, by rfl, by rfl⟩) (pe_dget (room1 hr) (pv 1) (pv 5) (fun _ _ => rfl))) (by rfl)) (pss_nil))) (pss_nil)) (pss_nil))) (pss_nil)))) (pss_cons (ps_ret (pv 4)) (pss_nil)))), ?_⟩
    refine y_asgG ?_
    refine y_var rfl ?_
    refine l_u2 hw d_record_ (fun u1 d2 hw => ?_)
    obtain ⟨counts_, ties_⟩ := u1
    refine c_gt2 (fun v_counts_ v_ties_ => [_, _, some v_counts_, some v_ties_, _, _, _, _, _, _, _]) (fun _ _ => rfl) d2 z (fun v_counts_ v_ties_ d_counts_ d_ties_ => ?_)
    refine l_asg (fun v => [_, _, _, _, some v, _, _, _, _, _, _]) (fun _ => rfl) ?_
    refine g_dnewTp (K := K) (α := Int) z (fun H v3 g4 z o5 => ?_)
    refine d_o hw z o5 (fun there_ v_there_ g_there_ z d_there_ hw => ?_)
    refine y_for ?_
    refine k_iList ?_
    refine y_cb ?_
    refine y_cons ?_
    refine y_var rfl ?_
    refine y_nil ?_
    refine y_sortDT (BD.sub d_here_ (mgS mgE)) z hw (fun t9 H Ho e hw p6 ws7 z d8 => ?_)
    replace d_counts_ := D.mo d_counts_ e
    replace d_here_ := BD.mo d_here_ e
    replace d_there_ := OD.mo d_there_ e
    replace d_ties_ := D.mo d_ties_ e
    have es10 := (Same.refl _).trans e
    replace z : Zs ([(p6, HO.lst ws7)] ++ (g_there_ ++ amb)) H Ho := z
    have o11 := OL.mk (p := p6) d8
    refine k_srcL (r0 := [(p6, HO.lst ws7)]) (OL.lv o11 mgE) mg0 z (fun J T => ?_)
    refine y_forL T hw (fun (s : (Dc (Tp Int) Int)) (σ : L2.St) (H Ho : Hp) => ∃ (g_there_ : Grp) (y_now_ : Option V) (y_held_ : Option V) (y_hand_ : Option V) (y_after_ : Option V), σ = [some v_record_, some v_here_, some v_counts_, some v_ties_, some v_there_, y_now_, y_held_, none, y_hand_, y_after_, none] ∧ Zs ([(p6, HO.lst ws7)] ++ (g_there_ ++ amb)) H Ho ∧ OD K Ho v_there_ s g_there_) ⟨_, _, _, _, _, rfl, z, d_there_⟩ ?_ ?_ ?_ ?_
    · intro s σ H Ho hI
      obtain ⟨g_there_, y_now_, y_held_, y_hand_, y_after_, rfl, z, d_there_⟩ := hI
      exact ⟨_, z, mg0⟩
    · intro s σ H Ho H2 Ho2 hI e t
      obtain ⟨g_there_, y_now_, y_held_, y_hand_, y_after_, rfl, z, d_there_⟩ := hI
      exact ⟨_, _, _, _, _, rfl, t _ z, OD.mo d_there_ e⟩
    · intro now_ v_now_ s σ H Ho N e hI d_now_ hw
      obtain ⟨there_, rfl⟩ : ∃ q, q = s := ⟨_, rfl⟩
      obtain ⟨g_there_, y_now_, y_held_, y_hand_, y_after_, rfl, z, d_there_⟩ := hI
      replace d_counts_ := D.mo d_counts_ e
      replace d_here_ := BD.mo d_here_ e
      replace d_ties_ := D.mo d_ties_ e
      have es12 := es10.trans e
      refine y_gname (σ' := [some v_record_, some v_here_, some v_counts_, some v_ties_, some v_there_, some v_now_, y_held_, none, y_hand_, y_after_, none]) rfl ?_
      refine l_asg (fun v => [_, _, _, _, _, _, some v, _, _, _, _]) (fun _ => rfl) ?_
      refine y_lc ?_
      refine k_iList ?_
      refine y_var rfl ?_
      refine k_srcL (r0 := ([] : Grp)) (LV.of d_ties_) mgN z (fun J T => ?_)
      refine y_lcG z mgN T hw (fun r13 tie_ v_tie_ H Ho N N' e z d_tie_ hw => ?_) (fun t31 H Ho e hw p28 ws29 z d30 => ?_)
      · replace z : Zs ([r13] ++ ([(p6, HO.lst ws7)] ++ (g_there_ ++ amb))) H Ho := z
        replace d_counts_ := D.mo d_counts_ e
        replace d_here_ := BD.mo d_here_ e
        replace d_now_ := D.mo d_now_ e
        replace d_there_ := OD.mo d_there_ e
        replace d_ties_ := D.mo d_ties_ e
        have es14 := (Same.refl _).trans e
        refine y_gname (σ' := [some v_record_, some v_here_, some v_counts_, some v_ties_, some v_there_, some v_now_, y_held_, some v_tie_, y_hand_, y_after_, none]) rfl ?_
        refine ⟨rfl, ?_⟩
        refine y_and ?_
        refine y_test ?_
        refine y_op ?_
        refine y_op ?_
        refine y_var rfl ?_
        refine y_c ?_
        refine y_ixT (y := tie_.d) d_tie_ z ⟨_, rfl, rfl⟩ (fun w d15 => ?_)
        first | obtain rfl := d_int d15 | cases d_int d15
        refine y_op ?_
        refine y_var rfl ?_
        refine y_op ?_
        refine y_var rfl ?_
        refine y_c ?_
        refine y_ixT (y := tie_.c) d_tie_ z ⟨_, rfl, rfl⟩ (fun w d16 => ?_)
        first | obtain rfl := d_int d16 | cases d_int d16
        refine y_ixTp d_now_ z hw (fun t17 w d18 hw => ?_)
        first | obtain rfl := d_int d18 | cases d_int d18
        refine y_eqi ?_
        refine ⟨_, rfl, ?_⟩
        refine w_andJ hw (fun (s : Bool) (v : Bool) (H2 : Hp) => ∃ (Ho2 : Hp), Same Ho Ho2 ∧ Zs ([r13] ++ ([(p6, HO.lst ws7)] ++ (g_there_ ++ amb))) H2 Ho2 ∧ v = s) (fun hb hw => ?_) (fun hb hw => ?_) ?_
        · refine y_test ?_
          refine y_op ?_
          refine y_op ?_
          refine y_var rfl ?_
          refine y_c ?_
          refine y_ixT (y := tie_.b) d_tie_ z ⟨_, rfl, rfl⟩ (fun w d19 => ?_)
          first | obtain rfl := d_int d19 | cases d_int d19
          refine y_op ?_
          refine y_var rfl ?_
          refine y_op ?_
          refine y_var rfl ?_
          refine y_c ?_
          refine y_ixT (y := tie_.a) d_tie_ z ⟨_, rfl, rfl⟩ (fun w d20 => ?_)
          first | obtain rfl := d_int d20 | cases d_int d20
          refine y_ixTp d_now_ z hw (fun t21 w d22 hw => ?_)
          first | obtain rfl := d_int d22 | cases d_int d22
          refine y_i0 ?_
          refine ⟨_, rfl, ?_⟩
          exact (run_ret hw) _ _ ⟨_, (Same.refl _), z, rfl⟩
        · exact (run_ret hw) _ _ ⟨_, (Same.refl _), z, rfl⟩
        rintro t23 v H ⟨Ho, e, z, rfl⟩ hw
        replace d_counts_ := D.mo d_counts_ e
        replace d_here_ := BD.mo d_here_ e
        replace d_now_ := D.mo d_now_ e
        replace d_there_ := OD.mo d_there_ e
        replace d_tie_ := D.mo d_tie_ e
        replace d_ties_ := D.mo d_ties_ e
        have es26 := (Same.refl _).trans e
        refine w_two (fun hb => ?_) (fun hb => ?_)
        · replace hw := run_itT (run_ret hw) hb
          refine y_op ?_
          refine y_var rfl ?_
          refine y_c ?_
          refine y_ixT (y := tie_.c) d_tie_ z ⟨_, rfl, rfl⟩ (fun w d27 => ?_)
          first | obtain rfl := d_int d27 | cases d_int d27
          exact (run_ret hw) _ _ _ es26 z (Dq.int _)
        · exact run_itF (run_ret hw) hb _ _ es26 z
      replace d_counts_ := D.mo d_counts_ e
      replace d_here_ := BD.mo d_here_ e
      replace d_now_ := D.mo d_now_ e
      replace d_there_ := OD.mo d_there_ e
      replace d_ties_ := D.mo d_ties_ e
      have es32 := (Same.refl _).trans e
      replace z : Zs ([(p28, HO.lst ws29)] ++ ([(p6, HO.lst ws7)] ++ (g_there_ ++ amb))) H Ho := z
      have o33 := OL.mk (p := p28) d30
      refine l_fr o33 z (fun Ho e z d34 => ?_)
      replace d_counts_ := D.mo d_counts_ e
      replace d_here_ := BD.mo d_here_ e
      replace d_now_ := D.mo d_now_ e
      replace d_there_ := OD.mo d_there_ e
      replace d_ties_ := D.mo d_ties_ e
      have es35 := es32.trans e
      refine l_d (K := K) (Ho := Ho) hw d34 (fun held_ v_held_ d_held_ hw => ?_)
      refine y_for ?_
      refine k_iR1 ?_
      refine y_cons ?_
      refine y_cb ?_
      refine y_cons ?_
      refine y_var rfl ?_
      refine y_nil ?_
      refine y_len (LV.of d_counts_) z ?_
      refine y_nil ?_
      refine k_srcR1 (K := K) (Ho := Ho) hw.1 (fun J T => ?_)
      replace hw := (run_gd hw).2
      refine y_forL T hw (fun (s : (Dc (Tp Int) Int)) (σ : L2.St) (H Ho : Hp) => ∃ (g_there_ : Grp) (y_hand_ : Option V) (y_after_ : Option V), σ = [some v_record_, some v_here_, some v_counts_, some v_ties_, some v_there_, some v_now_, some v_held_, none, y_hand_, y_after_, none] ∧ Zs ([(p6, HO.lst ws7)] ++ (g_there_ ++ amb)) H Ho ∧ OD K Ho v_there_ s g_there_) ⟨_, _, _, rfl, z, d_there_⟩ ?_ ?_ ?_ ?_
      · intro s σ H Ho hI
        obtain ⟨g_there_, y_hand_, y_after_, rfl, z, d_there_⟩ := hI
        exact ⟨_, z, mgN⟩
      · intro s σ H Ho H2 Ho2 hI e t
        obtain ⟨g_there_, y_hand_, y_after_, rfl, z, d_there_⟩ := hI
        exact ⟨_, _, _, rfl, t _ z, OD.mo d_there_ e⟩
      · intro hand_ v_hand_ s σ H Ho N e hI d_hand_ hw
        obtain ⟨there_, rfl⟩ : ∃ q, q = s := ⟨_, rfl⟩
        obtain ⟨g_there_, y_hand_, y_after_, rfl, z, d_there_⟩ := hI
        replace d_counts_ := D.mo d_counts_ e
        replace d_held_ := D.mo d_held_ e
        replace d_here_ := BD.mo d_here_ e
        replace d_now_ := D.mo d_now_ e
        replace d_ties_ := D.mo d_ties_ e
        have es36 := es35.trans e
        obtain rfl := d_int d_hand_
        refine y_gname (σ' := [some v_record_, some v_here_, some v_counts_, some v_ties_, some v_there_, some v_now_, some v_held_, none, some (V.int hand_), y_after_, none]) rfl ?_
        refine y_ifS ?_
        refine y_and ?_
        refine y_test ?_
        refine y_op ?_
        refine y_op ?_
        refine y_var rfl ?_
        refine y_var rfl ?_
        refine y_ixTp d_now_ z hw (fun t37 w d38 hw => ?_)
        first | obtain rfl := d_int d38 | cases d_int d38
        refine y_op ?_
        refine y_var rfl ?_
        refine y_var rfl ?_
        refine y_ixL (LV.of d_counts_) z hw (fun t39 w d40 hw => ?_)
        first | obtain rfl := d_int d40 | cases d_int d40
        refine y_i0 ?_
        refine ⟨_, rfl, ?_⟩
        refine w_andJ hw (fun (s : Bool) (v : Bool) (H2 : Hp) => ∃ (Ho2 : Hp), Same Ho Ho2 ∧ Zs ([(p6, HO.lst ws7)] ++ (g_there_ ++ amb)) H2 Ho2 ∧ v = s) (fun hb hw => ?_) (fun hb hw => ?_) ?_
        · refine y_test ?_
          refine y_op ?_
          refine y_var rfl ?_
          refine y_var rfl ?_
          refine y_notInD (Dq.int _) (D.mo d_held_ z.le) hw.1 ?_
          replace hw := (run_gd hw).2
          refine ⟨_, rfl, ?_⟩
          exact (run_ret hw) _ _ ⟨_, (Same.refl _), z, rfl⟩
        · exact (run_ret hw) _ _ ⟨_, (Same.refl _), z, rfl⟩
        rintro t41 v H ⟨Ho, e, z, rfl⟩ hw
        replace d_counts_ := D.mo d_counts_ e
        replace d_held_ := D.mo d_held_ e
        replace d_here_ := BD.mo d_here_ e
        replace d_now_ := D.mo d_now_ e
        replace d_there_ := OD.mo d_there_ e
        replace d_ties_ := D.mo d_ties_ e
        have es44 := (Same.refl _).trans e
        refine w_ifJ hw (fun (s : (Dc (Tp Int) Int)) (σ : L2.St) (H : Hp) => ∃ Ho2, Same Ho Ho2 ∧ (fun (s : (Dc (Tp Int) Int)) (σ : L2.St) (H Ho : Hp) => ∃ (g_there_ : Grp) (y_after_ : Option V), σ = [some v_record_, some v_here_, some v_counts_, some v_ties_, some v_there_, some v_now_, some v_held_, none, some (V.int hand_), y_after_, none] ∧ Zs ([(p6, HO.lst ws7)] ++ (g_there_ ++ amb)) H Ho ∧ OD K Ho v_there_ s g_there_) s σ H Ho2) (fun hb hw => ?_) (fun hb hw => ?_) ?_
        · refine l_asg (fun v => [_, _, _, _, _, _, _, _, _, some v, _]) (fun _ => rfl) ?_
          refine y_cb ?_
          refine y_cons ?_
          refine y_lc ?_
          refine k_iR1 ?_
          refine y_cons ?_
          refine y_cb ?_
          refine y_cons ?_
          refine y_var rfl ?_
          refine y_nil ?_
          refine y_len (LV.of d_counts_) z ?_
          refine y_nil ?_
          refine k_srcR1 (K := K) (Ho := Ho) hw.1 (fun J T => ?_)
          replace hw := (run_gd hw).2
          refine y_lcG z mgN T hw (fun r45 k_ v_k_ H Ho N N' e z d_k_ hw => ?_) (fun t52 H Ho e hw p49 ws50 z d51 => ?_)
          · replace z : Zs ([r45] ++ ([(p6, HO.lst ws7)] ++ (g_there_ ++ amb))) H Ho := z
            replace d_counts_ := D.mo d_counts_ e
            replace d_held_ := D.mo d_held_ e
            replace d_here_ := BD.mo d_here_ e
            replace d_now_ := D.mo d_now_ e
            replace d_there_ := OD.mo d_there_ e
            replace d_ties_ := D.mo d_ties_ e
            have es46 := (Same.refl _).trans e
            obtain rfl := d_int d_k_
            refine y_gname (σ' := [some v_record_, some v_here_, some v_counts_, some v_ties_, some v_there_, some v_now_, some v_held_, none, some (V.int hand_), y_after_, some (V.int k_)]) rfl ?_
            refine ⟨rfl, ?_⟩
            refine y_yes (w_t ?_)
            replace hw := run_itT (run_bret hw) rfl
            refine y_op ?_
            refine y_op ?_
            refine y_var rfl ?_
            refine y_var rfl ?_
            refine y_ixTp d_now_ z hw (fun t47 w d48 hw => ?_)
            first | obtain rfl := d_int d48 | cases d_int d48
            refine y_cb ?_
            refine y_cons ?_
            refine y_op ?_
            refine y_var rfl ?_
            refine y_var rfl ?_
            refine y_eqi ?_
            refine y_nil ?_
            refine Or.inr ⟨_, rfl, ?_⟩
            refine y_i0 ?_
            exact (run_ret hw) _ _ _ (Same.refl _) z (Dq.int _)
          replace d_counts_ := D.mo d_counts_ e
          replace d_held_ := D.mo d_held_ e
          replace d_here_ := BD.mo d_here_ e
          replace d_now_ := D.mo d_now_ e
          replace d_there_ := OD.mo d_there_ e
          replace d_ties_ := D.mo d_ties_ e
          have es53 := (Same.refl _).trans e
          replace z : Zs ([(p49, HO.lst ws50)] ++ ([(p6, HO.lst ws7)] ++ (g_there_ ++ amb))) H Ho := z
          have o54 := OL.mk (p := p49) d51
          refine y_nil ?_
          refine y_tupL (OL.lv o54 mg0) z (fun p H Ho e z d55 => ?_)
          replace d_counts_ := D.mo d_counts_ e
          replace d_held_ := D.mo d_held_ e
          replace d_here_ := BD.mo d_here_ e
          replace d_now_ := D.mo d_now_ e
          replace d_there_ := OD.mo d_there_ e
          replace d_ties_ := D.mo d_ties_ e
          have es56 := es53.trans e
          refine l_d (K := K) (Ho := Ho) hw d55 (fun after_ v_after_ d_after_ hw => ?_)
          replace z : Zs ([(p6, HO.lst ws7)] ++ (g_there_ ++ amb)) _ _ := z.go [[(p49, HO.lst ws50)], [(p6, HO.lst ws7)], g_there_] amb [1, 2]
          refine y_dput ?_
          refine y_op ?_
          refine y_dget2 ?_
          refine y_var rfl ?_
          refine g_isd ⟨_, d_there_, (mgS mg0)⟩ z (fun a57 ea57 => ?_)
          refine y_var rfl ?_
          refine y_c ?_
          refine g_dget2 ea57 ⟨_, d_there_, (mgS mg0)⟩ z d_after_ (Dq.int _) (fun w d58 => ?_)
          obtain rfl := d_int d58
          refine y_dget ?_
          refine y_var rfl ?_
          refine y_var rfl ?_
          refine g_dget (BD.sub d_here_ (mgS (mgS mgE))) z d_now_ hw (fun t59 w d60 hw => ?_)
          first | obtain rfl := d_int d60 | cases d_int d60
          refine y_i0 ?_
          refine y_var rfl ?_
          refine y_var rfl ?_
          replace z : Zs (g_there_ ++ ([(p6, HO.lst ws7)] ++ amb)) _ _ := z.go [[(p6, HO.lst ws7)], g_there_] amb [1, 0]
          refine g_dput z d_there_ d_after_ (Dq.int _) hw (fun there_ g_there_ H z d_there_ hw => ?_)
          replace z : Zs ([(p6, HO.lst ws7)] ++ (g_there_ ++ amb)) _ _ := z.go [g_there_, [(p6, HO.lst ws7)]] amb [1, 0]
          exact (run_ret hw) _ _ ⟨_, es56, ⟨_, _, rfl, z, d_there_⟩⟩
        · refine y_nxS ?_
          exact (run_ret hw) _ _ ⟨_, (Same.refl _), ⟨_, _, rfl, z, d_there_⟩⟩
        rintro there_ σ H ⟨Ho, e, g_there_, y_after_, rfl, z, d_there_⟩ hw
        replace d_counts_ := D.mo d_counts_ e
        replace d_held_ := D.mo d_held_ e
        replace d_here_ := BD.mo d_here_ e
        replace d_now_ := D.mo d_now_ e
        replace d_ties_ := D.mo d_ties_ e
        have es61 := es44.trans e
        exact (run_ret hw) _ _ _ es61 ⟨_, _, _, rfl, z, d_there_⟩
      intro s σ H Ho e hI hw
      obtain ⟨there_, rfl⟩ : ∃ q, q = s := ⟨_, rfl⟩
      obtain ⟨g_there_, y_hand_, y_after_, rfl, z, d_there_⟩ := hI
      replace d_counts_ := D.mo d_counts_ e
      replace d_held_ := D.mo d_held_ e
      replace d_here_ := BD.mo d_here_ e
      replace d_now_ := D.mo d_now_ e
      replace d_ties_ := D.mo d_ties_ e
      have es62 := es35.trans e
      exact (run_ret hw) _ _ _ es62 ⟨_, _, _, _, _, rfl, z, d_there_⟩
    intro s σ H Ho e hI hw
    obtain ⟨there_, rfl⟩ : ∃ q, q = s := ⟨_, rfl⟩
    obtain ⟨g_there_, y_now_, y_held_, y_hand_, y_after_, rfl, z, d_there_⟩ := hI
    have es63 := es10.trans e
    replace z : Zs (g_there_ ++ amb) _ _ := z.go [[(p6, HO.lst ws7)], g_there_] amb [1]
    refine y_ret ?_
    refine y_var rfl ?_
    exact (run_ret hw) _ _ _ _ es63 z d_there_
def sp_law_counted (K : PySem.W.Frag) (cl : Nat → Addr) : Sp := fun vs H Q E => ∃ (amb : Grp) (Ho : Hp) (v0 : V) (x0 : ((List Int) × (List (P4 Int Int Int Int)))), vs = [v0] ∧ Zs amb H Ho ∧ Z.D K Ho v0 x0 ∧ (m_law_counted x0).run fun r => ∀ v H' Ho', Same Ho Ho' → Zs amb H' Ho' → Z.D K Ho' v r → Q v H'
abbrev s_law_counted : Stmt := topS 26
theorem sc_law_counted : FnScope ["record", "here", "many", "step"] ["record"] (defScope s_law_counted) := ⟨rfl, rfl, rfl, by decide +kernel, rfl, by decide +kernel, by decide +kernel⟩
theorem ok_law_counted {f : Addr} {fd : FuncData} (F : Fun K "_law_counted" "_law_counted" s_law_counted f fd) {f_law_layer : Addr} {fd_law_layer : FuncData} (c_law_layer : Cal P w K mg base CX0 "_law_layer" ["record", "here"] 1 (sp_law_layer K cl) f_law_layer fd_law_layer) (m_len : mg "len" = none) (m_tuple : mg "tuple" = none) (m_sum : mg "sum" = none) (m_range : mg "range" = none) :
    FnOk P w K mg base CX0 2 f fd ["record"] (sp_law_counted K cl) := by
  refine F.ok sc_law_counted (fun vs H Q E h => ?_) (fun cdv A outer s H vs Q E hr h => ?_)
  · obtain ⟨amb, Ho, v_record_, record_, rfl, _⟩ := h
    rfl
  · obtain ⟨amb, Ho, v_record_, record_, rfl, z, d_record_, hw⟩ := h
    refine ⟨_, pss_cons (ps_set (i := 1) sc_law_counted.nd rfl (Or.inl rfl) (pe_disp1T (room1 hr) (pe_callTy (ztupL (K := K) rfl) (by rfl) m_tuple (by decide +kernel) (pa_cons (pe_op op_rep (pe_lst (pa_cons (pe_int) (pa_nil))) (pe_callB (zlen (K := K) rfl) (by rfl) m_len (by decide +kernel) (pa_cons (pe_ix (zix_tup (K := K) rfl) (pv 0) (pe_int) (fun _ _ => rfl)) (pa_nil)))) (pa_nil))) (pe_int))) (pss_cons (ps_set (i := 2) sc_law_counted.nd rfl (Or.inl rfl) (pe_int)) (pss_cons (ps_for PassesOwn.never rfl (pi_range1 (by rfl) m_range (pa_cons (pe_callB (zsum (K := K) rfl rfl) (by rfl) m_sum (by decide +kernel) (pa_cons (pe_ix (zix_tup (K := K) rfl) (pv 0) (pe_int) (fun _ _ => rfl)) (pa_nil))) (pa_nil))) (pg_name (i := 3) sc_law_counted.nd rfl (Or.inl rfl)) (pss_cons (ps_if (pt_cmpR (op_lt) (pv 2) (pe_int) (nomark _)) (pss_cons (ps_set (i := 1) sc_law_counted.nd rfl (Or.inl rfl) (pe_call c_law_layer.ok (hr.mono (by decide)) (by rfl) c_law_layer.g c_law_layer.kp c_law_layer.b .nil pass0 (pa_cons (pv 0) (pa_cons (pv 1) (pa_nil))))) (pss_cons (ps_set (i := 2) sc_law_counted.nd rfl (Or.inl rfl) (pe_op op_add (pv 2) (pe_callB zlenDT (by rfl) m_len (by decide +kernel) (pa_cons (pv 1) (pa_nil))))) (pss_nil))) (pss_nil)) (pss_nil))) (pss_cons (ps_ret (pe_tup (pa_cons (pv 2) (pa_cons (pe_ifExp (pt_cmp (pc_din (room1 hr) (pe_callTy (ztupL (K := K) rfl) (by rfl) m_tuple (by decide +kernel) (pa_cons (pe_ix (zix_tup (K := K) rfl) (pv 0) (pe_int) (fun _ _ => rfl)) (pa_nil))) (pv 1))) (pe_sumDT rfl (by rfl) m_sum (pv 1)) (pe_int)) (pa_nil))))) (pss_nil)))), ?_⟩
    refine l_asg (fun v => [_, some v, _, _]) (fun _ => rfl) ?_
    refine k_disp1T z (fun p1 H z => ?_)
    replace z : Zs ([(p1, HO.dT [])] ++ amb) _ _ := z
    refine y_cb ?_
    refine y_cons ?_
    refine y_op ?_
    refine k_lst ?_
    refine y_cons ?_
    refine y_c ?_
    refine y_nil ?_
    refine k_lstk (K := K) (xs := ([(0 : Int)] : (List Int))) z (DqAll.cons (Dq.int _) DqAll.nil) (by show 1 ≤ sizeLine; decide) (fun H p2 ws3 z d4 => ?_)
    replace z : Zs ([(p2, HO.lst ws3)] ++ ([(p1, HO.dT [])] ++ amb)) H Ho := z
    have o5 := OL.mk (p := p2) d4
    refine y_cb ?_
    refine y_cons ?_
    refine y_op ?_
    refine y_var rfl ?_
    refine y_c ?_
    refine y_ixT (y := record_.1) d_record_ z ⟨_, rfl, rfl⟩ (fun w d6 => ?_)
    refine y_nil ?_
    refine y_len (LV.of d6) z ?_
    refine y_rep z d4 hw.1 (fun H p7 ws8 z d9 => ?_)
    replace hw := (run_gd hw).2
    replace z : Zs ([(p7, HO.lst ws8)] ++ ([(p1, HO.dT [])] ++ amb)) H Ho := z
    have o10 := OL.mk (p := p7) d9
    refine y_nil ?_
    refine y_tupL (OL.lv o10 mg0) z (fun p H Ho e z d11 => ?_)
    replace d_record_ := D.mo d_record_ e
    have es12 := (Same.refl _).trans e
    refine y_c ?_
    replace z : Zs ([(p1, HO.dT [])] ++ ([(p7, HO.lst ws8)] ++ amb)) _ _ := z.go [[(p7, HO.lst ws8)], [(p1, HO.dT [])]] amb [1, 0]
    refine g_disp1P (a := (1 : Int)) z d11 (Dq.int _) (fun g13 H z o14 => ?_)
    refine d_o hw z o14 (fun here_ v_here_ g_here_ z d_here_ hw => ?_)
    replace z : Zs (g_here_ ++ amb) _ _ := z.go [g_here_, [(p7, HO.lst ws8)]] amb [0]
    refine l_asg (fun v => [_, _, some v, _]) (fun _ => rfl) ?_
    refine y_c ?_
    refine l_i hw (fun many_ hw => ?_)
    refine y_for ?_
    refine k_iR1 ?_
    refine y_cons ?_
    refine y_cb ?_
    refine y_cons ?_
    refine y_op ?_
    refine y_var rfl ?_
    refine y_c ?_
    refine y_ixT (y := record_.1) d_record_ z ⟨_, rfl, rfl⟩ (fun w d15 => ?_)
    refine y_nil ?_
    refine y_sum (LV.of d15) z ?_
    refine y_nil ?_
    refine k_srcR1 (K := K) (Ho := Ho) hw.1 (fun J T => ?_)
    replace hw := (run_gd hw).2
    refine y_forL T hw (fun (s : (Dc (Tp Int) Int) × Int) (σ : L2.St) (H Ho : Hp) => ∃ (v_here_ : V) (g_here_ : Grp) (y_step_ : Option V), σ = [some v_record_, some v_here_, some (V.int s.2), y_step_] ∧ Zs (g_here_ ++ amb) H Ho ∧ OD K Ho v_here_ s.1 g_here_) ⟨_, _, _, rfl, z, d_here_⟩ ?_ ?_ ?_ ?_
    · intro s σ H Ho hI
      obtain ⟨here_, many_⟩ := s
      obtain ⟨v_here_, g_here_, y_step_, rfl, z, d_here_⟩ := hI
      exact ⟨_, z, mgN⟩
    · intro s σ H Ho H2 Ho2 hI e t
      obtain ⟨here_, many_⟩ := s
      obtain ⟨v_here_, g_here_, y_step_, rfl, z, d_here_⟩ := hI
      exact ⟨_, _, _, rfl, t _ z, OD.mo d_here_ e⟩
    · intro step_ v_step_ s σ H Ho N e hI d_step_ hw
      obtain ⟨here_, many_⟩ := s
      obtain ⟨v_here_, g_here_, y_step_, rfl, z, d_here_⟩ := hI
      replace d_record_ := D.mo d_record_ e
      have es16 := es12.trans e
      obtain rfl := d_int d_step_
      refine y_gname (σ' := [some v_record_, some v_here_, some (V.int many_), some (V.int step_)]) rfl ?_
      refine y_ifS ?_
      refine y_test ?_
      refine y_op ?_
      refine y_var rfl ?_
      refine y_c ?_
      refine y_i0 ?_
      refine ⟨_, rfl, ?_⟩
      refine w_ifJ hw (fun (s : (Dc (Tp Int) Int) × Int) (σ : L2.St) (H : Hp) => ∃ Ho2, Same Ho Ho2 ∧ (fun (s : (Dc (Tp Int) Int) × Int) (σ : L2.St) (H Ho : Hp) => ∃ (v_here_ : V) (g_here_ : Grp), σ = [some v_record_, some v_here_, some (V.int s.2), some (V.int step_)] ∧ Zs (g_here_ ++ amb) H Ho ∧ OD K Ho v_here_ s.1 g_here_) s σ H Ho2) (fun hb hw => ?_) (fun hb hw => ?_) ?_
      · refine l_asg (fun v => [_, some v, _, _]) (fun _ => rfl) ?_
        refine y_call ?_
        refine y_cons ?_
        refine y_var rfl ?_
        refine y_cons ?_
        refine y_var rfl ?_
        refine y_nil ?_
        refine ⟨(g_here_ ++ amb), _, _, _, _, _, rfl, z, d_record_, ⟨_, d_here_, mg0⟩, ?_⟩
        refine run_mono3 hw (fun t17 hw v g19 H Ho e z d18 => ?_)
        replace d_here_ := OD.mo d_here_ e
        replace d_record_ := D.mo d_record_ e
        have es20 := (Same.refl _).trans e
        replace z : Zs (g19 ++ amb) _ _ := z.go [g19, g_here_] amb [0]
        refine d_o hw z d18 (fun here_ v_here_ g_here_ z d_here_ hw => ?_)
        refine l_asg (fun v => [_, _, some v, _]) (fun _ => rfl) ?_
        refine y_op ?_
        refine y_var rfl ?_
        refine y_cb ?_
        refine y_cons ?_
        refine y_var rfl ?_
        refine y_nil ?_
        refine y_lenDT ⟨_, d_here_, mg0⟩ z ?_
        refine y_i0 ?_
        refine l_i hw (fun many_ hw => ?_)
        exact (run_ret hw) _ _ ⟨_, es20, ⟨_, _, rfl, z, d_here_⟩⟩
      · refine y_nxS ?_
        exact (run_ret hw) _ _ ⟨_, (Same.refl _), ⟨_, _, rfl, z, d_here_⟩⟩
      rintro ⟨here_, many_⟩ σ H ⟨Ho, e, v_here_, g_here_, rfl, z, d_here_⟩ hw
      replace d_record_ := D.mo d_record_ e
      have es21 := (Same.refl _).trans e
      exact (run_ret hw) _ _ _ es21 ⟨_, _, _, rfl, z, d_here_⟩
    intro s σ H Ho e hI hw
    obtain ⟨here_, many_⟩ := s
    obtain ⟨v_here_, g_here_, y_step_, rfl, z, d_here_⟩ := hI
    replace d_record_ := D.mo d_record_ e
    have es22 := es12.trans e
    refine y_ret ?_
    refine k_tup ?_
    refine y_cons ?_
    refine y_var rfl ?_
    refine y_cons ?_
    refine y_if ?_
    refine y_tB ?_
    refine y_din ?_
    refine y_cb ?_
    refine y_cons ?_
    refine y_op ?_
    refine y_var rfl ?_
    refine y_c ?_
    refine y_ixT (y := record_.1) d_record_ z ⟨_, rfl, rfl⟩ (fun w d23 => ?_)
    refine y_nil ?_
    refine y_tupL (LV.of d23) z (fun p H Ho e z d24 => ?_)
    replace d_here_ := OD.mo d_here_ e
    replace d_record_ := D.mo d_record_ e
    have es25 := es22.trans e
    refine y_var rfl ?_
    refine g_din ⟨_, d_here_, mg0⟩ z d24 ?_
    refine ⟨_, rfl, ?_⟩
    refine w_ifEJ hw (fun (s : Int) (v : V) (H2 : Hp) => ∃ (Ho2 : Hp), Same Ho Ho2 ∧ Zs (g_here_ ++ amb) H2 Ho2 ∧ v = V.int s) (fun hb hw => ?_) (fun hb hw => ?_) ?_
    · refine k_sumDT ?_
      refine y_var rfl ?_
      refine y_sumDT ⟨_, d_here_, mg0⟩ z ?_
      exact (run_ret hw) _ _ ⟨_, (Same.refl _), z, rfl⟩
    · refine y_c ?_
      exact (run_ret hw) _ _ ⟨_, (Same.refl _), z, rfl⟩
    rintro t26 v H ⟨Ho, e, z, rfl⟩ hw
    replace d_here_ := OD.mo d_here_ e
    replace d_record_ := D.mo d_record_ e
    have es29 := es25.trans e
    refine y_nil ?_
    refine k_tupk (K := K) (x := (many_, t26)) z (by show 2 ≤ sizeLine; decide) _ rfl (DqAll.cons (Dq.int _) (DqAll.cons (Dq.int _) DqAll.nil)) (fun p H Ho e z d30 => ?_)
    replace d_here_ := OD.mo d_here_ e
    replace d_record_ := D.mo d_record_ e
    have es31 := es29.trans e
    replace z : Zs amb _ _ := z.go [g_here_] amb []
    exact (run_ret hw) _ _ _ es31 z d30
def sp_law_cuts (K : PySem.W.Frag) (cl : Nat → Addr) : Sp := fun vs H Q E => ∃ (amb : Grp) (Ho : Hp) (v0 : V) (x0 : ((List Int) × (List (P4 Int Int Int Int)))) (v1 : V) (x1 : Int) (v2 : V) (x2 : Int), vs = [v0, v1, v2] ∧ Zs amb H Ho ∧ Z.D K Ho v0 x0 ∧ Z.D K Ho v1 x1 ∧ Z.D K Ho v2 x2 ∧ (m_law_cuts x0 x1 x2).run fun r => ∀ v H' Ho', Same Ho Ho' → Zs amb H' Ho' → Z.D K Ho' v r → Q v H'
abbrev s_law_cuts : Stmt := topS 27
theorem sc_law_cuts : FnScope ["record", "kind", "limit", "found"] ["record", "kind", "limit"] (defScope s_law_cuts) := ⟨rfl, rfl, rfl, by decide +kernel, rfl, by decide +kernel, by decide +kernel⟩
theorem ok_law_cuts {f : Addr} {fd : FuncData} (F : Fun K "_law_cuts" "_law_cuts" s_law_cuts f fd) {f_how_many_cuts : Addr} {fd_how_many_cuts : FuncData} (c_how_many_cuts : Cal P w K mg base (L2.CX P w) "how_many_cuts" ["record", "most"] 5 (sp_how_many_cuts K cl) f_how_many_cuts fd_how_many_cuts) (kb_how_many_cuts : KBn K fd_how_many_cuts ["record", "most"] 1 ["most"] (fun us ws => us ++ ws) (fun vs zs => vs ++ zs)) {dt_how_many_cuts : Tok} (bd_how_many_cuts : Binds K fd_how_many_cuts ["record", "most"] [Value.int 2000 dt_how_many_cuts]) (gc_TooMany : mg "TooMany" = some (.ref (cl 1))) (exm_TooMany : ∀ n, PySem.W.exmOne K (.ref (cl n)) (.ref (cl 1)) = some (sub_TooMany n)) :
    FnOk P w K mg base CX0 6 f fd ["record", "kind", "limit"] (sp_law_cuts K cl) := by
  refine F.ok sc_law_cuts (fun vs H Q E h => ?_) (fun cdv A outer s H vs Q E hr h => ?_)
  · obtain ⟨amb, Ho, v_record_, record_, v_kind_, kind_, v_limit_, limit_, rfl, _⟩ := h
    rfl
  · obtain ⟨amb, Ho, v_record_, record_, v_kind_, kind_, v_limit_, limit_, rfl, z, d_record_, d_kind_, d_limit_, hw⟩ := h
    refine ⟨_, pss_cons (ps_set (i := 3) sc_law_cuts.nd rfl (Or.inl rfl) (pe_non)) (pss_cons (zps_try_only (K := K) rfl rfl rfl ⟨rfl, by decide, .inl gc_TooMany⟩ takes0 (fun W1 pn1 xe1 tk1 xp1 => pss_cons (ps_if (pt_cmpR (op_eq) (pv 1) (pe_int) (nomark _)) (pss_cons (ps_set (i := 3) sc_law_cuts.nd rfl (Or.inl rfl) ((by exact (pe_callSD c_how_many_cuts.ok (hr.mono (by decide)) (by rfl) c_how_many_cuts.g c_how_many_cuts.kp bd_how_many_cuts (show Vals [V.int 2000] [Value.int 2000 dt_how_many_cuts] from .cons ⟨_, rfl⟩ .nil) (fun σ => passAt tk1 σ) (pa_cons (pv 0) (pa_nil)))))) (pss_nil)) (pss_cons (ps_if (pt_cmpR (op_eq) (pv 1) (pe_int) (nomark _)) (pss_cons (ps_set (i := 3) sc_law_cuts.nd rfl (Or.inl rfl) ((by exact (pe_callS c_how_many_cuts.ok (hr.mono (by decide)) (by rfl) c_how_many_cuts.g c_how_many_cuts.kp c_how_many_cuts.b (fun σ => passAt tk1 σ) (pa_cons (pv 0) (pa_cons (pv 2) (pa_nil))))))) (pss_nil)) (pss_cons (ps_set (i := 3) sc_law_cuts.nd rfl (Or.inl rfl) ((by exact (pe_callNS c_how_many_cuts.ok (hr.mono (by decide)) (by rfl) c_how_many_cuts.g c_how_many_cuts.kp kb_how_many_cuts (fun σ => passAt tk1 σ) (pa_cons (pv 0) (pa_nil)) (pk_cons (pv 2) pk_nil))))) (pss_nil))) (pss_nil))) (pss_nil)) (fun ta1 oe1 cls1 d1 pn1 hz1 hf1 => pss_cons (ps_set (i := 3) sc_law_cuts.nd rfl (Or.inl rfl) (pe_non)) (pss_nil))) (pss_cons (ps_ret (pv 3)) (pss_nil))), ?_⟩
    obtain rfl := d_int d_kind_
    obtain rfl := d_int d_limit_
    refine l_asg (fun v => [_, _, _, some v]) (fun _ => rfl) ?_
    refine y_c ?_
    refine l_d (K := K) (Ho := Ho) hw (show Z.D K Ho V.non (none : (Option Int)) from Dq.non) (fun found_ v_found_ d_found_ hw => ?_)
    refine y_tryOJ exm_TooMany z hw (fun (s : (Option Int)) (σ : L2.St) (H Ho : Hp) => ∃ (v_found_ : V), σ = [some v_record_, some (V.int kind_), some (V.int limit_), some v_found_] ∧ Zs amb H Ho ∧ Z.D K Ho v_found_ s) (fun Wx N hw => ?_) (fun er a1 H Ho N e z _ hw => ?_) ?_
    · refine y_ifS ?_
      refine y_test ?_
      refine y_op ?_
      refine y_var rfl ?_
      refine y_c ?_
      refine y_eqi ?_
      refine ⟨_, rfl, ?_⟩
      refine y_cases hw (fun hb hw => ?_) (fun hb hw => ?_)
      · refine l_asg (fun v => [_, _, _, some v]) (fun _ => rfl) ?_
        refine y_callSDv ?_
        refine y_cons ?_
        refine y_var rfl ?_
        refine y_nil ?_
        refine ⟨amb, _, _, _, _, _, rfl, z, d_record_, (Dq.int _), ?_⟩
        refine exm_mono (run_exm hw) (fun t2 hw v H Ho e z d3 => ?_) (fun er hw H Ho e z => ?_)
        rotate_left
        · exact exP_er (run_ret hw) _ _ ((Same.refl _).trans e) z
        replace d_found_ := D.mo d_found_ e
        replace d_record_ := D.mo d_record_ e
        have es5 := (Same.refl _).trans e
        first | obtain rfl := d_int d3 | cases d_int d3
        refine l_d (K := K) (Ho := Ho) hw (show Z.D K Ho _ (some t2) from (Dq.int _)) (fun found_ v_found_ d_found_ hw => ?_)
        refine y_nxS ?_
        exact exP_ok (run_ret hw) _ _ _ es5 ⟨_, rfl, z, d_found_⟩
      · refine y_ifS ?_
        refine y_test ?_
        refine y_op ?_
        refine y_var rfl ?_
        refine y_c ?_
        refine y_eqi ?_
        refine ⟨_, rfl, ?_⟩
        refine y_cases hw (fun hb hw => ?_) (fun hb hw => ?_)
        · refine l_asg (fun v => [_, _, _, some v]) (fun _ => rfl) ?_
          refine y_callS ?_
          refine y_cons ?_
          refine y_var rfl ?_
          refine y_cons ?_
          refine y_var rfl ?_
          refine y_nil ?_
          refine ⟨amb, _, _, _, _, _, rfl, z, d_record_, (Dq.int _), ?_⟩
          refine exm_mono (run_exm hw) (fun t6 hw v H Ho e z d7 => ?_) (fun er hw H Ho e z => ?_)
          rotate_left
          · exact exP_er (run_ret hw) _ _ ((Same.refl _).trans e) z
          replace d_found_ := D.mo d_found_ e
          replace d_record_ := D.mo d_record_ e
          have es9 := (Same.refl _).trans e
          first | obtain rfl := d_int d7 | cases d_int d7
          refine l_d (K := K) (Ho := Ho) hw (show Z.D K Ho _ (some t6) from (Dq.int _)) (fun found_ v_found_ d_found_ hw => ?_)
          refine y_nxS ?_
          refine y_nxS ?_
          exact exP_ok (run_ret hw) _ _ _ es9 ⟨_, rfl, z, d_found_⟩
        · refine l_asg (fun v => [_, _, _, some v]) (fun _ => rfl) ?_
          refine y_callNS ?_
          refine y_cons ?_
          refine y_var rfl ?_
          refine y_nil ?_
          refine y_cons ?_
          refine y_var rfl ?_
          refine y_nil ?_
          refine ⟨rfl, rfl, ?_⟩
          refine ⟨amb, _, _, _, _, _, rfl, z, d_record_, (Dq.int _), ?_⟩
          refine exm_mono (run_exm hw) (fun t10 hw v H Ho e z d11 => ?_) (fun er hw H Ho e z => ?_)
          rotate_left
          · exact exP_er (run_ret hw) _ _ ((Same.refl _).trans e) z
          replace d_found_ := D.mo d_found_ e
          replace d_record_ := D.mo d_record_ e
          have es13 := (Same.refl _).trans e
          first | obtain rfl := d_int d11 | cases d_int d11
          refine l_d (K := K) (Ho := Ho) hw (show Z.D K Ho _ (some t10) from (Dq.int _)) (fun found_ v_found_ d_found_ hw => ?_)
          refine y_nxS ?_
          refine y_nxS ?_
          exact exP_ok (run_ret hw) _ _ _ es13 ⟨_, rfl, z, d_found_⟩
    · replace d_found_ := D.mo d_found_ e
      replace d_record_ := D.mo d_record_ e
      have es14 := (Same.refl _).trans e
      refine l_asg (fun v => [_, _, _, some v]) (fun _ => rfl) ?_
      refine y_c ?_
      refine l_d (K := K) (Ho := Ho) hw (show Z.D K Ho V.non (none : (Option Int)) from Dq.non) (fun found_ v_found_ d_found_ hw => ?_)
      exact (run_ret hw) _ _ _ (Same.refl _) ⟨_, rfl, z, d_found_⟩
    intro s σ H Ho e hI hw
    obtain ⟨found_, rfl⟩ : ∃ q, q = s := ⟨_, rfl⟩
    obtain ⟨v_found_, rfl, z, d_found_⟩ := hI
    have es15 := (Same.refl _).trans e
    refine y_ret ?_
    refine y_var rfl ?_
    exact (run_ret hw) _ _ _ es15 z d_found_
def sp_law_orders (K : PySem.W.Frag) (cl : Nat → Addr) : Sp := fun vs H Q E => ∃ (amb : Grp) (Ho : Hp) (v0 : V) (x0 : ((List Int) × (List (P4 Int Int Int Int)))) (v1 : V) (x1 : Int) (v2 : V) (x2 : Int), vs = [v0, v1, v2] ∧ Zs amb H Ho ∧ Z.D K Ho v0 x0 ∧ Z.D K Ho v1 x1 ∧ Z.D K Ho v2 x2 ∧ (m_law_orders x0 x1 x2).run fun r => ∀ v H' Ho', Same Ho Ho' → Zs amb H' Ho' → Z.D K Ho' v r → Q v H'
abbrev s_law_orders : Stmt := topS 28
theorem sc_law_orders : FnScope ["record", "kind", "limit", "found"] ["record", "kind", "limit"] (defScope s_law_orders) := ⟨rfl, rfl, rfl, by decide +kernel, rfl, by decide +kernel, by decide +kernel⟩
theorem ok_law_orders {f : Addr} {fd : FuncData} (F : Fun K "_law_orders" "_law_orders" s_law_orders f fd) {f_how_many_orders : Addr} {fd_how_many_orders : FuncData} (c_how_many_orders : Cal P w K mg base (L2.CX P w) "how_many_orders" ["record", "most"] 5 (sp_how_many_orders K cl) f_how_many_orders fd_how_many_orders) (kb_how_many_orders : KBn K fd_how_many_orders ["record", "most"] 1 ["most"] (fun us ws => us ++ ws) (fun vs zs => vs ++ zs)) {dt_how_many_orders : Tok} (bd_how_many_orders : Binds K fd_how_many_orders ["record", "most"] [Value.int 2000 dt_how_many_orders]) (gc_TooMany : mg "TooMany" = some (.ref (cl 1))) (exm_TooMany : ∀ n, PySem.W.exmOne K (.ref (cl n)) (.ref (cl 1)) = some (sub_TooMany n)) :
    FnOk P w K mg base CX0 6 f fd ["record", "kind", "limit"] (sp_law_orders K cl) := by
  refine F.ok sc_law_orders (fun vs H Q E h => ?_) (fun cdv A outer s H vs Q E hr h => ?_)
  · obtain ⟨amb, Ho, v_record_, record_, v_kind_, kind_, v_limit_, limit_, rfl, _⟩ := h
    rfl
  · obtain ⟨amb, Ho, v_record_, record_, v_kind_, kind_, v_limit_, limit_, rfl, z, d_record_, d_kind_, d_limit_, hw⟩ := h
    refine ⟨_, pss_cons (ps_set (i := 3) sc_law_orders.nd rfl (Or.inl rfl) (pe_non)) (pss_cons (zps_try_only (K := K) rfl rfl rfl ⟨rfl, by decide, .inl gc_TooMany⟩ takes0 (fun W1 pn1 xe1 tk1 xp1 => pss_cons (ps_if (pt_cmpR (op_eq) (pv 1) (pe_int) (nomark _)) (pss_cons (ps_set (i := 3) sc_law_orders.nd rfl (Or.inl rfl) ((by exact (pe_callSD c_how_many_orders.ok (hr.mono (by decide)) (by rfl) c_how_many_orders.g c_how_many_orders.kp bd_how_many_orders (show Vals [V.int 2000] [Value.int 2000 dt_how_many_orders] from .cons ⟨_, rfl⟩ .nil) (fun σ => passAt tk1 σ) (pa_cons (pv 0) (pa_nil)))))) (pss_nil)) (pss_cons (ps_if (pt_cmpR (op_eq) (pv 1) (pe_int) (nomark _)) (pss_cons (ps_set (i := 3) sc_law_orders.nd rfl (Or.inl rfl) ((by exact (pe_callS c_how_many_orders.ok (hr.mono (by decide)) (by rfl) c_how_many_orders.g c_how_many_orders.kp c_how_many_orders.b (fun σ => passAt tk1 σ) (pa_cons (pv 0) (pa_cons (pv 2) (pa_nil))))))) (pss_nil)) (pss_cons (ps_set (i := 3) sc_law_orders.nd rfl (Or.inl rfl) ((by exact (pe_callNS c_how_many_orders.ok (hr.mono (by decide)) (by rfl) c_how_many_orders.g c_how_many_orders.kp kb_how_many_orders (fun σ => passAt tk1 σ) (pa_cons (pv 0) (pa_nil)) (pk_cons (pv 2) pk_nil))))) (pss_nil))) (pss_nil))) (pss_nil)) (fun ta1 oe1 cls1 d1 pn1 hz1 hf1 => pss_cons (ps_set (i := 3) sc_law_orders.nd rfl (Or.inl rfl) (pe_non)) (pss_nil))) (pss_cons (ps_ret (pv 3)) (pss_nil))), ?_⟩
    obtain rfl := d_int d_kind_
    obtain rfl := d_int d_limit_
    refine l_asg (fun v => [_, _, _, some v]) (fun _ => rfl) ?_
    refine y_c ?_
    refine l_d (K := K) (Ho := Ho) hw (show Z.D K Ho V.non (none : (Option Int)) from Dq.non) (fun found_ v_found_ d_found_ hw => ?_)
    refine y_tryOJ exm_TooMany z hw (fun (s : (Option Int)) (σ : L2.St) (H Ho : Hp) => ∃ (v_found_ : V), σ = [some v_record_, some (V.int kind_), some (V.int limit_), some v_found_] ∧ Zs amb H Ho ∧ Z.D K Ho v_found_ s) (fun Wx N hw => ?_) (fun er a1 H Ho N e z _ hw => ?_) ?_
    · refine y_ifS ?_
      refine y_test ?_
      refine y_op ?_
      refine y_var rfl ?_
      refine y_c ?_
      refine y_eqi ?_
      refine ⟨_, rfl, ?_⟩
      refine y_cases hw (fun hb hw => ?_) (fun hb hw => ?_)
      · refine l_asg (fun v => [_, _, _, some v]) (fun _ => rfl) ?_
        refine y_callSDv ?_
        refine y_cons ?_
        refine y_var rfl ?_
        refine y_nil ?_
        refine ⟨amb, _, _, _, _, _, rfl, z, d_record_, (Dq.int _), ?_⟩
        refine exm_mono (run_exm hw) (fun t2 hw v H Ho e z d3 => ?_) (fun er hw H Ho e z => ?_)
        rotate_left
        · exact exP_er (run_ret hw) _ _ ((Same.refl _).trans e) z
        replace d_found_ := D.mo d_found_ e
        replace d_record_ := D.mo d_record_ e
        have es5 := (Same.refl _).trans e
        first | obtain rfl := d_int d3 | cases d_int d3
        refine l_d (K := K) (Ho := Ho) hw (show Z.D K Ho _ (some t2) from (Dq.int _)) (fun found_ v_found_ d_found_ hw => ?_)
        refine y_nxS ?_
        exact exP_ok (run_ret hw) _ _ _ es5 ⟨_, rfl, z, d_found_⟩
      · refine y_ifS ?_
        refine y_test ?_
        refine y_op ?_
        refine y_var rfl ?_
        refine y_c ?_
        refine y_eqi ?_
        refine ⟨_, rfl, ?_⟩
        refine y_cases hw (fun hb hw => ?_) (fun hb hw => ?_)
        · refine l_asg (fun v => [_, _, _, some v]) (fun _ => rfl) ?_
          refine y_callS ?_
          refine y_cons ?_
          refine y_var rfl ?_
          refine y_cons ?_
          refine y_var rfl ?_
          refine y_nil ?_
          refine ⟨amb, _, _, _, _, _, rfl, z, d_record_, (Dq.int _), ?_⟩
          refine exm_mono (run_exm hw) (fun t6 hw v H Ho e z d7 => ?_) (fun er hw H Ho e z => ?_)
          rotate_left
          · exact exP_er (run_ret hw) _ _ ((Same.refl _).trans e) z
          replace d_found_ := D.mo d_found_ e
          replace d_record_ := D.mo d_record_ e
          have es9 := (Same.refl _).trans e
          first | obtain rfl := d_int d7 | cases d_int d7
          refine l_d (K := K) (Ho := Ho) hw (show Z.D K Ho _ (some t6) from (Dq.int _)) (fun found_ v_found_ d_found_ hw => ?_)
          refine y_nxS ?_
          refine y_nxS ?_
          exact exP_ok (run_ret hw) _ _ _ es9 ⟨_, rfl, z, d_found_⟩
        · refine l_asg (fun v => [_, _, _, some v]) (fun _ => rfl) ?_
          refine y_callNS ?_
          refine y_cons ?_
          refine y_var rfl ?_
          refine y_nil ?_
          refine y_cons ?_
          refine y_var rfl ?_
          refine y_nil ?_
          refine ⟨rfl, rfl, ?_⟩
          refine ⟨amb, _, _, _, _, _, rfl, z, d_record_, (Dq.int _), ?_⟩
          refine exm_mono (run_exm hw) (fun t10 hw v H Ho e z d11 => ?_) (fun er hw H Ho e z => ?_)
          rotate_left
          · exact exP_er (run_ret hw) _ _ ((Same.refl _).trans e) z
          replace d_found_ := D.mo d_found_ e
          replace d_record_ := D.mo d_record_ e
          have es13 := (Same.refl _).trans e
          first | obtain rfl := d_int d11 | cases d_int d11
          refine l_d (K := K) (Ho := Ho) hw (show Z.D K Ho _ (some t10) from (Dq.int _)) (fun found_ v_found_ d_found_ hw => ?_)
          refine y_nxS ?_
          refine y_nxS ?_
          exact exP_ok (run_ret hw) _ _ _ es13 ⟨_, rfl, z, d_found_⟩
    · replace d_found_ := D.mo d_found_ e
      replace d_record_ := D.mo d_record_ e
      have es14 := (Same.refl _).trans e
      refine l_asg (fun v => [_, _, _, some v]) (fun _ => rfl) ?_
      refine y_c ?_
      refine l_d (K := K) (Ho := Ho) hw (show Z.D K Ho V.non (none : (Option Int)) from Dq.non) (fun found_ v_found_ d_found_ hw => ?_)
      exact (run_ret hw) _ _ _ (Same.refl _) ⟨_, rfl, z, d_found_⟩
    intro s σ H Ho e hI hw
    obtain ⟨found_, rfl⟩ : ∃ q, q = s := ⟨_, rfl⟩
    obtain ⟨v_found_, rfl, z, d_found_⟩ := hI
    have es15 := (Same.refl _).trans e
    refine y_ret ?_
    refine y_var rfl ?_
    exact (run_ret hw) _ _ _ es15 z d_found_
def sp_law_is (K : PySem.W.Frag) (cl : Nat → Addr) : Sp := fun vs H Q E => ∃ (amb : Grp) (Ho : Hp) (v0 : V) (x0 : (Option Int)) (v1 : V) (x1 : (Option Int)), vs = [v0, v1] ∧ Zs amb H Ho ∧ Z.D K Ho v0 x0 ∧ Z.D K Ho v1 x1 ∧ (m_law_is x0 x1).run fun r => ∀ v H' Ho', Same Ho Ho' → Zs amb H' Ho' → Z.D K Ho' v r → Q v H'
abbrev s_law_is : Stmt := topS 29
theorem sc_law_is : FnScope ["found", "due"] ["found", "due"] (defScope s_law_is) := ⟨rfl, rfl, rfl, by decide +kernel, rfl, by decide +kernel, by decide +kernel⟩
theorem ok_law_is {f : Addr} {fd : FuncData} (F : Fun K "_law_is" "_law_is" s_law_is f fd) (m_isinstance : mg "isinstance" = none) (m_int : mg "int" = none) (m_bool : mg "bool" = none) :
    FnOk P w K mg base CX0 1 f fd ["found", "due"] (sp_law_is K cl) := by
  refine F.ok sc_law_is (fun vs H Q E h => ?_) (fun cdv A outer s H vs Q E hr h => ?_)
  · obtain ⟨amb, Ho, v_found_, found_, v_due_, due_, rfl, _⟩ := h
    rfl
  · obtain ⟨amb, Ho, v_found_, found_, v_due_, due_, rfl, z, d_found_, d_due_, hw⟩ := h
    refine ⟨_, pss_cons (ps_if (pt_cmpR (op_isN) (pv 1) (pe_non) (nomark _)) (pss_cons (ps_ret (pe_cmpR (op_isN) (pv 0) (pe_non) (nomark _))) (pss_nil)) (pss_nil)) (pss_cons (ps_ret (pe_and (pe_callB (zisi (K := K) rfl) (by rfl) m_isinstance (by decide +kernel) (pa_cons (pv 0) (pa_cons (pe_bltn (v := .ty "int") (by rfl) m_int (by decide +kernel) rfl) pa_nil))) (pe_and (pe_not (pe_callB (zisi (K := K) rfl) (by rfl) m_isinstance (by decide +kernel) (pa_cons (pv 0) (pa_cons (pe_bltn (v := .ty "bool") (by rfl) m_bool (by decide +kernel) rfl) pa_nil)))) (pe_one (pe_cmpR (zop_eqD (K := K) rfl hr.units) (pv 0) (pv 1) (nomark _)))))) (pss_nil)), ?_⟩
    refine y_ifS ?_
    refine y_test ?_
    refine y_op ?_
    refine y_var rfl ?_
    refine y_c ?_
    refine ⟨rfl, ?_⟩
    rw [dec_non d_due_ hw.1]
    replace hw := (run_gd hw).2
    refine ⟨_, rfl, ?_⟩
    refine y_cases hw (fun hb hw => ?_) (fun hb hw => ?_)
    · refine y_ret ?_
      refine y_op ?_
      refine y_var rfl ?_
      refine y_c ?_
      refine ⟨rfl, ?_⟩
      rw [dec_non d_found_ hw.1]
      replace hw := (run_gd hw).2
      exact (run_ret hw) _ _ _ (Same.refl _) z (Dq.bl _)
    · refine y_nxS ?_
      refine y_ret ?_
      refine y_andV ?_
      refine y_cb ?_
      refine y_cons ?_
      refine y_var rfl ?_
      refine y_cons (y_c (y_nil ?_))
      refine y_isiO (D.mo d_found_ z.le) (b := true) (b' := false) (by decide +kernel) (by decide +kernel) ?_
      refine ⟨_, rfl, ?_⟩
      refine w_andVJ hw (fun (s : Bool) (v : V) (H2 : Hp) => ∃ (Ho2 : Hp), Same Ho Ho2 ∧ Zs amb H2 Ho2 ∧ v = V.bl s) (fun hb hw => ?_) (fun hb hw => ?_) ?_
      · refine y_andV ?_
        refine y_notV ?_
        refine y_cb ?_
        refine y_cons ?_
        refine y_var rfl ?_
        refine y_cons (y_c (y_nil ?_))
        refine y_isiO (D.mo d_found_ z.le) (b := false) (b' := false) (by decide +kernel) (by decide +kernel) ?_
        refine ⟨_, rfl, ?_⟩
        refine ⟨_, rfl, ?_⟩
        refine w_andVJ hw (fun (s : Bool) (v : V) (H2 : Hp) => ∃ (Ho2 : Hp), Same Ho Ho2 ∧ Zs amb H2 Ho2 ∧ v = V.bl s) (fun hb hw => ?_) (fun hb hw => ?_) ?_
        · refine y_op ?_
          refine y_var rfl ?_
          refine y_var rfl ?_
          refine y_eqD (D.mo d_found_ z.le) (D.mo d_due_ z.le) hw.1 ?_
          replace hw := (run_gd hw).2
          exact (run_ret hw) _ _ ⟨_, (Same.refl _), z, rfl⟩
        · exact (run_ret hw) _ _ ⟨_, (Same.refl _), z, rfl⟩
        rintro t1 v H ⟨Ho, e, z, rfl⟩ hw
        replace d_due_ := D.mo d_due_ e
        replace d_found_ := D.mo d_found_ e
        have es4 := (Same.refl _).trans e
        exact (run_ret hw) _ _ ⟨_, es4, z, rfl⟩
      · exact (run_ret hw) _ _ ⟨_, (Same.refl _), z, rfl⟩
      rintro t5 v H ⟨Ho, e, z, rfl⟩ hw
      replace d_due_ := D.mo d_due_ e
      replace d_found_ := D.mo d_found_ e
      have es8 := (Same.refl _).trans e
      exact (run_ret hw) _ _ _ es8 z (Dq.bl _)
def sp_law (K : PySem.W.Frag) (cl : Nat → Addr) : Sp := fun vs H Q E => ∃ (amb : Grp) (Ho : Hp) (v0 : V) (x0 : (List Int)), vs = [v0] ∧ Zs amb H Ho ∧ LV K amb Ho v0 x0 ∧ (m_law x0).run fun r => ∀ v H' Ho', Same Ho Ho' → Zs amb H' Ho' → Z.D K Ho' v r → Q v H'
abbrev s_law : Stmt := topS 30
theorem sc_law : FnScope ["script", "bag", "size", "kind", "bound", "limit", "record", "many", "orders", "handed", "due"] ["script"] (defScope s_law) := ⟨rfl, rfl, rfl, by decide +kernel, rfl, by decide +kernel, by decide +kernel⟩
theorem ok_law {f : Addr} {fd : FuncData} (F : Fun K "law" "law" s_law f fd) {f_law_bag : Addr} {fd_law_bag : FuncData} (c_law_bag : Cal P w K mg base CX0 "_law_bag" ["script"] 1 (sp_law_bag K cl) f_law_bag fd_law_bag) {f_law_draw : Addr} {fd_law_draw : FuncData} (c_law_draw : Cal P w K mg base CX0 "_law_draw" ["bag", "many"] 2 (sp_law_draw K cl) f_law_draw fd_law_draw) {f_law_wide : Addr} {fd_law_wide : FuncData} (c_law_wide : Cal P w K mg base CX0 "_law_wide" ["bag"] 4 (sp_law_wide K cl) f_law_wide fd_law_wide) {f_law_record : Addr} {fd_law_record : FuncData} (c_law_record : Cal P w K mg base CX0 "_law_record" ["bag", "great"] 4 (sp_law_record K cl) f_law_record fd_law_record) {f_law_counted : Addr} {fd_law_counted : FuncData} (c_law_counted : Cal P w K mg base CX0 "_law_counted" ["record"] 2 (sp_law_counted K cl) f_law_counted fd_law_counted) {f_law_copy : Addr} {fd_law_copy : FuncData} (c_law_copy : Cal P w K mg base CX0 "_law_copy" ["record"] 1 (sp_law_copy K cl) f_law_copy fd_law_copy) {f_law_is : Addr} {fd_law_is : FuncData} (c_law_is : Cal P w K mg base CX0 "_law_is" ["found", "due"] 1 (sp_law_is K cl) f_law_is fd_law_is) {f_law_cuts : Addr} {fd_law_cuts : FuncData} (c_law_cuts : Cal P w K mg base CX0 "_law_cuts" ["record", "kind", "limit"] 6 (sp_law_cuts K cl) f_law_cuts fd_law_cuts) {f_law_orders : Addr} {fd_law_orders : FuncData} (c_law_orders : Cal P w K mg base CX0 "_law_orders" ["record", "kind", "limit"] 6 (sp_law_orders K cl) f_law_orders fd_law_orders) (m_int : mg "int" = none) (m_min : mg "min" = none) (m_max : mg "max" = none) :
    FnOk P w K mg base CX0 7 f fd ["script"] (sp_law K cl) := by
  refine F.ok sc_law (fun vs H Q E h => ?_) (fun cdv A outer s H vs Q E hr h => ?_)
  · obtain ⟨amb, Ho, v_script_, script_, rfl, _⟩ := h
    rfl
  · obtain ⟨amb, Ho, v_script_, script_, rfl, z, d_script_, hw⟩ := h
    refine ⟨_, pss_cons (ps_set (i := 1) sc_law.nd rfl (Or.inl rfl) (pe_call c_law_bag.ok (hr.mono (by decide)) (by rfl) c_law_bag.g c_law_bag.kp c_law_bag.b .nil pass0 (pa_cons (pv 0) (pa_nil)))) (pss_cons (ps_set (i := 2) sc_law.nd rfl (Or.inl rfl) (pe_call c_law_draw.ok (hr.mono (by decide)) (by rfl) c_law_draw.g c_law_draw.kp c_law_draw.b .nil pass0 (pa_cons (pv 1) (pa_cons (pe_int) (pa_nil))))) (pss_cons (ps_set (i := 3) sc_law.nd rfl (Or.inl rfl) (pe_call c_law_draw.ok (hr.mono (by decide)) (by rfl) c_law_draw.g c_law_draw.kp c_law_draw.b .nil pass0 (pa_cons (pv 1) (pa_cons (pe_int) (pa_nil))))) (pss_cons (ps_set (i := 4) sc_law.nd rfl (Or.inl rfl) (pe_call c_law_draw.ok (hr.mono (by decide)) (by rfl) c_law_draw.g c_law_draw.kp c_law_draw.b .nil pass0 (pa_cons (pv 1) (pa_cons (pe_int) (pa_nil))))) (pss_cons (ps_set (i := 5) sc_law.nd rfl (Or.inl rfl) (pe_call c_law_draw.ok (hr.mono (by decide)) (by rfl) c_law_draw.g c_law_draw.kp c_law_draw.b .nil pass0 (pa_cons (pv 1) (pa_cons (pe_int) (pa_nil))))) (pss_cons (ps_set (i := 6) sc_law.nd rfl (Or.inl rfl) (pe_ifExp (pt_cmpR (op_gt) (pv 2) (pe_int) (nomark _)) (pe_call c_law_wide.ok (hr.mono (by decide)) (by rfl) c_law_wide.g c_law_wide.kp c_law_wide.b .nil pass0 (pa_cons (pv 1) (pa_nil))) (pe_call c_law_record.ok (hr.mono (by decide)) (by rfl) c_law_record.g c_law_record.kp c_law_record.b .nil pass0 (pa_cons (pv 1) (pa_cons (pe_callTy call_int1 (by rfl) m_int (by decide +kernel) (pa_cons (pe_cmpR (op_eq) (pv 2) (pe_int) (nomark _)) (pa_nil))) (pa_nil)))))) (pss_cons (ps_asg (pe_call c_law_counted.ok (hr.mono (by decide)) (by rfl) c_law_counted.g c_law_counted.kp c_law_counted.b .nil pass0 (pa_cons (pv 6) (pa_nil))) (zpg_tup (K := K) (n := 2) rfl rfl (pgs_cons (pg_name (i := 7) sc_law.nd rfl (Or.inl rfl)) (pgs_cons (pg_name (i := 8) sc_law.nd rfl (Or.inl rfl)) (pgs_nil))))) (pss_cons (ps_if (pt_cmpR (op_gt) (pv 4) (pe_int) (nomark _)) (pss_cons (ps_set (i := 5) sc_law.nd rfl (Or.inl rfl) (pe_callB (call_max2 rfl) (by rfl) m_max (by decide +kernel) (pa_cons (pe_int) (pa_cons (pe_callB (call_min2 rfl) (by rfl) m_min (by decide +kernel) (pa_cons (pe_int) (pa_cons (pe_ix (zix_list (K := K) rfl) (pe_lst (pa_cons (pe_int) (pa_cons (pe_op op_sub (pv 7) (pe_int)) (pa_cons (pv 7) (pa_cons (pe_op op_add (pv 7) (pe_int)) (pa_nil)))))) (pe_op op_sub (pv 4) (pe_int)) (fun _ _ => rfl)) (pa_nil)))) (pa_nil))))) (pss_nil)) (pss_nil)) (pss_cons (ps_set (i := 9) sc_law.nd rfl (Or.inl rfl) (pe_call c_law_copy.ok (hr.mono (by decide)) (by rfl) c_law_copy.g c_law_copy.kp c_law_copy.b .nil pass0 (pa_cons (pv 6) (pa_nil)))) (pss_cons (ps_set (i := 10) sc_law.nd rfl (Or.inl rfl) (pe_lst (pa_cons (pe_non) (pa_cons (pe_non) (pa_nil))))) (pss_cons (ps_if (pt_cmpR (op_le) (pv 7) (pe_ix (zix_list (K := K) rfl) (pe_lst (pa_cons (pv 5) (pa_cons (pe_int) (pa_nil)))) (pe_callTy call_int1 (by rfl) m_int (by decide +kernel) (pa_cons (pe_cmpR (op_eq) (pv 3) (pe_int) (nomark _)) (pa_nil))) (fun _ _ => rfl)) (nomark _)) (pss_cons (ps_set (i := 10) sc_law.nd rfl (Or.inl rfl) (pe_lst (pa_cons (pv 7) (pa_cons (pv 8) (pa_nil))))) (pss_nil)) (pss_nil)) (pss_cons (ps_if (PW.pt (pw_or (pt_not (pt_val (pe_call c_law_is.ok (hr.mono (by decide)) (by rfl) c_law_is.g c_law_is.kp c_law_is.b .nil pass0 (pa_cons (pe_call c_law_cuts.ok (hr.mono (by decide)) (by rfl) c_law_cuts.g c_law_cuts.kp c_law_cuts.b .nil pass0 (pa_cons (pv 9) (pa_cons (pv 3) (pa_cons (pv 5) (pa_nil))))) (pa_cons (pe_ix (zix_list (K := K) rfl) (pv 10) (pe_int) (fun _ _ => rfl)) (pa_nil)))))) (pw_or1 (pt_not (pt_val (pe_call c_law_is.ok (hr.mono (by decide)) (by rfl) c_law_is.g c_law_is.kp c_law_is.b .nil pass0 (pa_cons (pe_call c_law_orders.ok (hr.mono (by decide)) (by rfl) c_law_orders.g c_law_orders.kp c_law_orders.b .nil pass0 (pa_cons (pv 9) (pa_cons (pv 3) (pa_cons (pv 5) (pa_nil))))) (pa_cons (pe_ix (zix_list (K := K) rfl) (pv 10) (pe_int) (fun _ _ => rfl)) (pa_nil))))))))) (pss_cons (ps_ret (pe_bl)) (pss_nil)) (pss_nil)) (pss_cons (ps_ret (pe_cmpR (zop_eqD (K := K) rfl hr.units) (pv 9) (pv 6) (nomark _))) (pss_nil))))))))))))), ?_⟩
    refine l_asg (fun v => [_, some v, _, _, _, _, _, _, _, _, _]) (fun _ => rfl) ?_
    refine y_call ?_
    refine y_cons ?_
    refine y_var rfl ?_
    refine y_nil ?_
    refine ⟨amb, _, _, _, rfl, z, (LV.sub d_script_ mgE), ?_⟩
    refine run_mono3 hw (fun t1 hw v g3 H Ho e z d2 => ?_)
    replace d_script_ := LV.mo d_script_ e
    have es4 := (Same.refl _).trans e
    refine h_o hw z d2 (fun bag_ v_bag_ g_bag_ z d_bag_ hw => ?_)
    refine l_asg (fun v => [_, _, some v, _, _, _, _, _, _, _, _]) (fun _ => rfl) ?_
    refine y_call ?_
    refine y_cons ?_
    refine y_var rfl ?_
    refine y_cons ?_
    refine y_c ?_
    refine y_nil ?_
    refine ⟨amb, _, _, _, _, _, _, rfl, z, d_bag_, (Dq.int _), ?_⟩
    refine run_mono2 hw (fun t5 bag_ hw v g_bag_ H Ho e z d6 d_bag_ => ?_)
    replace d6 : Z.D K Ho v t5 := d6
    replace d_bag_ : OH K Ho v_bag_ bag_ g_bag_ := d_bag_
    have es8 := es4.trans e
    first | obtain rfl := d_int d6 | cases d_int d6
    refine l_i hw (fun size_ hw => ?_)
    refine l_asg (fun v => [_, _, _, some v, _, _, _, _, _, _, _]) (fun _ => rfl) ?_
    refine y_call ?_
    refine y_cons ?_
    refine y_var rfl ?_
    refine y_cons ?_
    refine y_c ?_
    refine y_nil ?_
    refine ⟨amb, _, _, _, _, _, _, rfl, z, d_bag_, (Dq.int _), ?_⟩
    refine run_mono2 hw (fun t9 bag_ hw v g_bag_ H Ho e z d10 d_bag_ => ?_)
    replace d10 : Z.D K Ho v t9 := d10
    replace d_bag_ : OH K Ho v_bag_ bag_ g_bag_ := d_bag_
    have es12 := es8.trans e
    first | obtain rfl := d_int d10 | cases d_int d10
    refine l_i hw (fun kind_ hw => ?_)
    refine l_asg (fun v => [_, _, _, _, some v, _, _, _, _, _, _]) (fun _ => rfl) ?_
    refine y_call ?_
    refine y_cons ?_
    refine y_var rfl ?_
    refine y_cons ?_
    refine y_c ?_
    refine y_nil ?_
    refine ⟨amb, _, _, _, _, _, _, rfl, z, d_bag_, (Dq.int _), ?_⟩
    refine run_mono2 hw (fun t13 bag_ hw v g_bag_ H Ho e z d14 d_bag_ => ?_)
    replace d14 : Z.D K Ho v t13 := d14
    replace d_bag_ : OH K Ho v_bag_ bag_ g_bag_ := d_bag_
    have es16 := es12.trans e
    first | obtain rfl := d_int d14 | cases d_int d14
    refine l_i hw (fun bound_ hw => ?_)
    refine l_asg (fun v => [_, _, _, _, _, some v, _, _, _, _, _]) (fun _ => rfl) ?_
    refine y_call ?_
    refine y_cons ?_
    refine y_var rfl ?_
    refine y_cons ?_
    refine y_c ?_
    refine y_nil ?_
    refine ⟨amb, _, _, _, _, _, _, rfl, z, d_bag_, (Dq.int _), ?_⟩
    refine run_mono2 hw (fun t17 bag_ hw v g_bag_ H Ho e z d18 d_bag_ => ?_)
    replace d18 : Z.D K Ho v t17 := d18
    replace d_bag_ : OH K Ho v_bag_ bag_ g_bag_ := d_bag_
    have es20 := es16.trans e
    first | obtain rfl := d_int d18 | cases d_int d18
    refine l_i hw (fun limit_ hw => ?_)
    refine l_asg (fun v => [_, _, _, _, _, _, some v, _, _, _, _]) (fun _ => rfl) ?_
    refine y_if ?_
    refine y_test ?_
    refine y_op ?_
    refine y_var rfl ?_
    refine y_c ?_
    refine y_i0 ?_
    refine ⟨_, rfl, ?_⟩
    refine w_ifEJ hw (fun (s : ((List Int) × (List (P4 Int Int Int Int))) × (H5 (List Int) Int Int Int Int)) (v : V) (H2 : Hp) => ∃ (Ho2 : Hp) (g_bag_ : Grp), Same Ho Ho2 ∧ OH K Ho2 v_bag_ s.2 g_bag_ ∧ Zs (g_bag_ ++ amb) H2 Ho2 ∧ Z.D K Ho2 v s.1) (fun hb hw => ?_) (fun hb hw => ?_) ?_
    · refine y_call ?_
      refine y_cons ?_
      refine y_var rfl ?_
      refine y_nil ?_
      refine ⟨amb, _, _, _, _, rfl, z, d_bag_, ?_⟩
      refine run_mono2 hw (fun t21 bag_ hw v g_bag_ H Ho e z d22 d_bag_ => ?_)
      replace d22 : Z.D K Ho v t21 := d22
      replace d_bag_ : OH K Ho v_bag_ bag_ g_bag_ := d_bag_
      have es24 := (Same.refl _).trans e
      exact (run_ret hw) _ _ ⟨_, _, es24, d_bag_, z, d22⟩
    · refine y_call ?_
      refine y_cons ?_
      refine y_var rfl ?_
      refine y_cons ?_
      refine y_cb ?_
      refine y_cons ?_
      refine y_op ?_
      refine y_var rfl ?_
      refine y_c ?_
      refine y_eqi ?_
      refine y_nil ?_
      refine Or.inr ⟨_, rfl, ?_⟩
      refine y_nil ?_
      refine ⟨amb, _, _, _, _, _, _, rfl, z, d_bag_, (Dq.int _), ?_⟩
      refine run_mono2 hw (fun t25 bag_ hw v g_bag_ H Ho e z d26 d_bag_ => ?_)
      replace d26 : Z.D K Ho v t25 := d26
      replace d_bag_ : OH K Ho v_bag_ bag_ g_bag_ := d_bag_
      have es28 := (Same.refl _).trans e
      exact (run_ret hw) _ _ ⟨_, _, es28, d_bag_, z, d26⟩
    rintro ⟨t29, bag_⟩ v H ⟨Ho, g_bag_, e, d_bag_, z, d30⟩ hw
    have es32 := es20.trans e
    refine l_d (K := K) (Ho := Ho) hw d30 (fun record_ v_record_ d_record_ hw => ?_)
    refine y_asgG ?_
    refine y_call ?_
    refine y_cons ?_
    refine y_var rfl ?_
    refine y_nil ?_
    refine ⟨(g_bag_ ++ amb), _, _, _, rfl, z, d_record_, ?_⟩
    refine run_mono3 hw (fun t33 hw v H Ho e z d34 => ?_)
    replace d_bag_ := OH.mo d_bag_ e
    replace d_record_ := D.mo d_record_ e
    have es36 := es32.trans e
    refine l_u2 hw d34 (fun u37 d38 hw => ?_)
    obtain ⟨many_, orders_⟩ := u37
    refine c_gt2 (fun v_many_ v_orders_ => [_, _, _, _, _, _, _, some v_many_, some v_orders_, _, _]) (fun _ _ => rfl) d38 z (fun v_many_ v_orders_ d_many_ d_orders_ => ?_)
    obtain rfl := d_int d_many_
    obtain rfl := d_int d_orders_
    refine y_ifS ?_
    refine y_test ?_
    refine y_op ?_
    refine y_var rfl ?_
    refine y_c ?_
    refine y_i0 ?_
    refine ⟨_, rfl, ?_⟩
    refine w_ifJ hw (fun (s : Int) (σ : L2.St) (H : Hp) => ∃ Ho2, Same Ho Ho2 ∧ (fun (s : Int) (σ : L2.St) (H Ho : Hp) => σ = [some v_script_, some v_bag_, some (V.int size_), some (V.int kind_), some (V.int bound_), some (V.int s), some v_record_, some (V.int many_), some (V.int orders_), none, none] ∧ Zs (g_bag_ ++ amb) H Ho) s σ H Ho2) (fun hb hw => ?_) (fun hb hw => ?_) ?_
    · refine l_asg (fun v => [_, _, _, _, _, some v, _, _, _, _, _]) (fun _ => rfl) ?_
      refine y_cb ?_
      refine y_cons ?_
      refine y_c ?_
      refine y_cons ?_
      refine y_cb ?_
      refine y_cons ?_
      refine y_c ?_
      refine y_cons ?_
      refine y_op ?_
      refine k_lst ?_
      refine y_cons ?_
      refine y_c ?_
      refine y_cons ?_
      refine y_op ?_
      refine y_var rfl ?_
      refine y_c ?_
      refine y_i0 ?_
      refine y_cons ?_
      refine y_var rfl ?_
      refine y_cons ?_
      refine y_op ?_
      refine y_var rfl ?_
      refine y_c ?_
      refine y_i0 ?_
      refine y_nil ?_
      refine k_lstk (K := K) (xs := ([(2000 : Int), (many_ - (1 : Int)), many_, (many_ + (1 : Int))] : (List Int))) z (DqAll.cons (Dq.int _) (DqAll.cons (Dq.int _) (DqAll.cons (Dq.int _) (DqAll.cons (Dq.int _) DqAll.nil)))) (by show 4 ≤ sizeLine; decide) (fun H p39 ws40 z d41 => ?_)
      replace z : Zs ([(p39, HO.lst ws40)] ++ (g_bag_ ++ amb)) H Ho := z
      have o42 := OL.mk (p := p39) d41
      refine y_op ?_
      refine y_var rfl ?_
      refine y_c ?_
      refine y_i0 ?_
      refine y_ixL (OL.lv o42 mg0) z hw (fun t43 w d44 hw => ?_)
      first | obtain rfl := d_int d44 | cases d_int d44
      refine y_nil ?_
      refine ⟨_, _, rfl, ?_⟩
      refine y_nil ?_
      refine ⟨_, _, rfl, ?_⟩
      refine l_i hw (fun limit_ hw => ?_)
      replace z : Zs (g_bag_ ++ amb) _ _ := z.go [[(p39, HO.lst ws40)], g_bag_] amb [1]
      exact (run_ret hw) _ _ ⟨_, (Same.refl _), ⟨rfl, z⟩⟩
    · refine y_nxS ?_
      exact (run_ret hw) _ _ ⟨_, (Same.refl _), ⟨rfl, z⟩⟩
    rintro limit_ σ H ⟨Ho, e, rfl, z⟩ hw
    replace d_bag_ := OH.mo d_bag_ e
    replace d_record_ := D.mo d_record_ e
    have es45 := es36.trans e
    refine l_asg (fun v => [_, _, _, _, _, _, _, _, _, some v, _]) (fun _ => rfl) ?_
    refine y_call ?_
    refine y_cons ?_
    refine y_var rfl ?_
    refine y_nil ?_
    refine ⟨(g_bag_ ++ amb), _, _, _, rfl, z, d_record_, ?_⟩
    refine run_mono3 hw (fun t46 hw v H Ho e z d47 => ?_)
    replace d_bag_ := OH.mo d_bag_ e
    replace d_record_ := D.mo d_record_ e
    have es49 := es45.trans e
    refine l_d (K := K) (Ho := Ho) hw d47 (fun handed_ v_handed_ d_handed_ hw => ?_)
    refine l_asg (fun v => [_, _, _, _, _, _, _, _, _, _, some v]) (fun _ => rfl) ?_
    refine k_lst ?_
    refine y_cons ?_
    refine y_c ?_
    refine y_cons ?_
    refine y_c ?_
    refine y_nil ?_
    refine k_lstk (K := K) (xs := ([(none : (Option Int)), (none : (Option Int))] : (List (Option Int)))) z (DqAll.cons (show Z.D K Ho V.non (none : (Option Int)) from Dq.non) (DqAll.cons (show Z.D K Ho V.non (none : (Option Int)) from Dq.non) DqAll.nil)) (by show 2 ≤ sizeLine; decide) (fun H p50 ws51 z d52 => ?_)
    replace z : Zs ([(p50, HO.lst ws51)] ++ (g_bag_ ++ amb)) H Ho := z
    have o53 := OL.mk (p := p50) d52
    refine l_fr o53 z (fun Ho e z d54 => ?_)
    replace d_bag_ := OH.mo d_bag_ e
    replace d_handed_ := D.mo d_handed_ e
    replace d_record_ := D.mo d_record_ e
    have es55 := es49.trans e
    refine l_d (K := K) (Ho := Ho) hw d54 (fun due_ v_due_ d_due_ hw => ?_)
    refine y_ifS ?_
    refine y_test ?_
    refine y_op ?_
    refine y_var rfl ?_
    refine y_op ?_
    refine k_lst ?_
    refine y_cons ?_
    refine y_var rfl ?_
    refine y_cons ?_
    refine y_c ?_
    refine y_nil ?_
    refine k_lstk (K := K) (xs := ([limit_, (2000 : Int)] : (List Int))) z (DqAll.cons (Dq.int _) (DqAll.cons (Dq.int _) DqAll.nil)) (by show 2 ≤ sizeLine; decide) (fun H p56 ws57 z d58 => ?_)
    replace z : Zs ([(p56, HO.lst ws57)] ++ (g_bag_ ++ amb)) H Ho := z
    have o59 := OL.mk (p := p56) d58
    refine y_cb ?_
    refine y_cons ?_
    refine y_op ?_
    refine y_var rfl ?_
    refine y_c ?_
    refine y_eqi ?_
    refine y_nil ?_
    refine Or.inr ⟨_, rfl, ?_⟩
    refine y_ixL (OL.lv o59 mg0) z hw (fun t60 w d61 hw => ?_)
    first | obtain rfl := d_int d61 | cases d_int d61
    refine y_i0 ?_
    refine ⟨_, rfl, ?_⟩
    refine w_ifJ hw (fun (s : (List (Option Int))) (σ : L2.St) (H : Hp) => ∃ Ho2, Same Ho Ho2 ∧ (fun (s : (List (Option Int))) (σ : L2.St) (H Ho : Hp) => ∃ (v_due_ : V), σ = [some v_script_, some v_bag_, some (V.int size_), some (V.int kind_), some (V.int bound_), some (V.int limit_), some v_record_, some (V.int many_), some (V.int orders_), some v_handed_, some v_due_] ∧ Zs ([(p56, HO.lst ws57)] ++ (g_bag_ ++ amb)) H Ho ∧ Z.D K Ho v_due_ s) s σ H Ho2) (fun hb hw => ?_) (fun hb hw => ?_) ?_
    · refine l_asg (fun v => [_, _, _, _, _, _, _, _, _, _, some v]) (fun _ => rfl) ?_
      refine k_lst ?_
      refine y_cons ?_
      refine y_var rfl ?_
      refine y_cons ?_
      refine y_var rfl ?_
      refine y_nil ?_
      refine k_lstk (K := K) (xs := ([(some many_), (some orders_)] : (List (Option Int)))) z (DqAll.cons (show Z.D K Ho _ (some many_) from (Dq.int _)) (DqAll.cons (show Z.D K Ho _ (some orders_) from (Dq.int _)) DqAll.nil)) (by show 2 ≤ sizeLine; decide) (fun H p62 ws63 z d64 => ?_)
      replace z : Zs ([(p62, HO.lst ws63)] ++ ([(p56, HO.lst ws57)] ++ (g_bag_ ++ amb))) H Ho := z
      have o65 := OL.mk (p := p62) d64
      refine l_fr o65 z (fun Ho e z d66 => ?_)
      replace d_bag_ := OH.mo d_bag_ e
      replace d_due_ := D.mo d_due_ e
      replace d_handed_ := D.mo d_handed_ e
      replace d_record_ := D.mo d_record_ e
      have es67 := (Same.refl _).trans e
      refine l_d (K := K) (Ho := Ho) hw d66 (fun due_ v_due_ d_due_ hw => ?_)
      exact (run_ret hw) _ _ ⟨_, es67, ⟨_, rfl, z, d_due_⟩⟩
    · refine y_nxS ?_
      exact (run_ret hw) _ _ ⟨_, (Same.refl _), ⟨_, rfl, z, d_due_⟩⟩
    rintro due_ σ H ⟨Ho, e, v_due_, rfl, z, d_due_⟩ hw
    replace d_bag_ := OH.mo d_bag_ e
    replace d_handed_ := D.mo d_handed_ e
    replace d_record_ := D.mo d_record_ e
    have es68 := es55.trans e
    replace z : Zs (g_bag_ ++ amb) _ _ := z.go [[(p56, HO.lst ws57)], g_bag_] amb [1]
    refine y_ifS ?_
    refine y_or ?_
    refine y_not ?_
    refine y_tB ?_
    refine y_call ?_
    refine y_cons ?_
    refine y_call ?_
    refine y_cons ?_
    refine y_var rfl ?_
    refine y_cons ?_
    refine y_var rfl ?_
    refine y_cons ?_
    refine y_var rfl ?_
    refine y_nil ?_
    refine ⟨(g_bag_ ++ amb), _, _, _, _, _, _, _, rfl, z, d_handed_, (Dq.int _), (Dq.int _), ?_⟩
    refine run_mono3 hw (fun t69 hw v H Ho e z d70 => ?_)
    replace d_bag_ := OH.mo d_bag_ e
    replace d_due_ := D.mo d_due_ e
    replace d_handed_ := D.mo d_handed_ e
    replace d_record_ := D.mo d_record_ e
    have es72 := es68.trans e
    refine y_cons ?_
    refine y_op ?_
    refine y_var rfl ?_
    refine y_c ?_
    refine y_ixL (LV.of d_due_) z hw (fun t73 w d74 hw => ?_)
    refine y_nil ?_
    refine ⟨(g_bag_ ++ amb), _, _, _, _, _, rfl, z, d70, d74, ?_⟩
    refine run_mono3 hw (fun t75 hw v H Ho e z d76 => ?_)
    replace d_bag_ := OH.mo d_bag_ e
    replace d_due_ := D.mo d_due_ e
    replace d_handed_ := D.mo d_handed_ e
    replace d_record_ := D.mo d_record_ e
    have es78 := es72.trans e
    first | obtain rfl := d_bool d76 | cases d_bool d76
    refine ⟨_, rfl, ?_⟩
    refine w_orJ hw (fun (s : Bool) (v : Bool) (H2 : Hp) => ∃ (Ho2 : Hp), Same Ho Ho2 ∧ Zs (g_bag_ ++ amb) H2 Ho2 ∧ v = s) (fun hb hw => ?_) (fun hb hw => ?_) ?_
    · exact (run_ret hw) _ _ ⟨_, (Same.refl _), z, rfl⟩
    · refine y_not ?_
      refine y_tB ?_
      refine y_call ?_
      refine y_cons ?_
      refine y_call ?_
      refine y_cons ?_
      refine y_var rfl ?_
      refine y_cons ?_
      refine y_var rfl ?_
      refine y_cons ?_
      refine y_var rfl ?_
      refine y_nil ?_
      refine ⟨(g_bag_ ++ amb), _, _, _, _, _, _, _, rfl, z, d_handed_, (Dq.int _), (Dq.int _), ?_⟩
      refine run_mono3 hw (fun t79 hw v H Ho e z d80 => ?_)
      replace d_bag_ := OH.mo d_bag_ e
      replace d_due_ := D.mo d_due_ e
      replace d_handed_ := D.mo d_handed_ e
      replace d_record_ := D.mo d_record_ e
      have es82 := (Same.refl _).trans e
      refine y_cons ?_
      refine y_op ?_
      refine y_var rfl ?_
      refine y_c ?_
      refine y_ixL (LV.of d_due_) z hw (fun t83 w d84 hw => ?_)
      refine y_nil ?_
      refine ⟨(g_bag_ ++ amb), _, _, _, _, _, rfl, z, d80, d84, ?_⟩
      refine run_mono3 hw (fun t85 hw v H Ho e z d86 => ?_)
      replace d_bag_ := OH.mo d_bag_ e
      replace d_handed_ := D.mo d_handed_ e
      replace d_record_ := D.mo d_record_ e
      have es88 := es82.trans e
      first | obtain rfl := d_bool d86 | cases d_bool d86
      refine ⟨_, rfl, ?_⟩
      exact (run_ret hw) _ _ ⟨_, es88, z, rfl⟩
    rintro t89 v H ⟨Ho, e, z, rfl⟩ hw
    replace d_bag_ := OH.mo d_bag_ e
    replace d_handed_ := D.mo d_handed_ e
    replace d_record_ := D.mo d_record_ e
    have es92 := es78.trans e
    refine y_cases hw (fun hb hw => ?_) (fun hb hw => ?_)
    · refine y_ret ?_
      refine y_c ?_
      replace z : Zs amb _ _ := z.go [g_bag_] amb []
      exact (run_ret hw) _ _ _ es92 z (Dq.bl _)
    · refine y_nxS ?_
      refine y_ret ?_
      refine y_op ?_
      refine y_var rfl ?_
      refine y_var rfl ?_
      refine y_eqD (D.mo d_handed_ z.le) (D.mo d_record_ z.le) hw.1 ?_
      replace hw := (run_gd hw).2
      replace z : Zs amb _ _ := z.go [g_bag_] amb []
      exact (run_ret hw) _ _ _ es92 z (Dq.bl _)
end
def spLaw (K : PySem.W.Frag) : Sp := fun vs H Q _ => ∃ (a : Addr) (ns : List Int), vs = [.ref a] ∧ SqL K H a (ns.map V.int) ∧ ns.length ≤ 63 ∧ ∀ H', Q (.bl true) H'
def clx (q_NoNote q_TooMany : Addr) : Nat → Addr
  | 0 => q_NoNote
  | 1 => q_TooMany
  | _ => q_NoNote
theorem all_mk {l : PySem.W.OpenLaw} {w : World} {K : PySem.W.Frag} {h : Heap} {mg : Str → Option Value} {fa : Addr} (X : K.In h) (G : h.Ns mainGlobals mg) (hfa : mg "law" = some (.ref fa))
    {q_NoNote : Addr}
    (h_gc_NoNote : PySem.W.nsIn K mainGlobals "NoNote" = some (some (.ref q_NoNote)))
    {q_TooMany : Addr}
    (h_gc_TooMany : PySem.W.nsIn K mainGlobals "TooMany" = some (some (.ref q_TooMany)))
    {f1 : Addr} {od1 an1 : Option Addr} {sl1 : Array (Option Value)} {oc1 kV1 dc1 pm1 cd1 ct1 : Value}
    (a1 : PySem.W.nsIn K mainGlobals "is_touch" = some (some (.ref f1)))
    (l1 : K.lookup f1 = some ⟨oc1, od1, .func (PySem.W.fnOf "is_touch" "is_touch" (defArgs s_is_touch) (defBody s_is_touch) (defScope s_is_touch) .none kV1 dc1 pm1 an1 cd1 ct1), sl1⟩)
    (c1 : PySem.W.codeIn K cd1 "is_touch" = true) (k1 : PySem.W.keepIn K (.ref f1) = true)
    {f2 : Addr} {od2 an2 : Option Addr} {sl2 : Array (Option Value)} {oc2 kV2 dc2 pm2 cd2 ct2 : Value}
    (a2 : PySem.W.nsIn K mainGlobals "need_record" = some (some (.ref f2)))
    (l2 : K.lookup f2 = some ⟨oc2, od2, .func (PySem.W.fnOf "need_record" "need_record" (defArgs s_need_record) (defBody s_need_record) (defScope s_need_record) .none kV2 dc2 pm2 an2 cd2 ct2), sl2⟩)
    (c2 : PySem.W.codeIn K cd2 "need_record" = true) (k2 : PySem.W.keepIn K (.ref f2) = true)
    {f3 : Addr} {od3 an3 : Option Addr} {sl3 : Array (Option Value)} {oc3 kV3 dc3 pm3 cd3 ct3 : Value}
    (a3 : PySem.W.nsIn K mainGlobals "firsts_of" = some (some (.ref f3)))
    (l3 : K.lookup f3 = some ⟨oc3, od3, .func (PySem.W.fnOf "firsts_of" "firsts_of" (defArgs s_firsts_of) (defBody s_firsts_of) (defScope s_firsts_of) .none kV3 dc3 pm3 an3 cd3 ct3), sl3⟩)
    (c3 : PySem.W.codeIn K cd3 "firsts_of" = true) (k3 : PySem.W.keepIn K (.ref f3) = true)
    {f4 : Addr} {od4 an4 : Option Addr} {sl4 : Array (Option Value)} {oc4 kV4 dc4 pm4 cd4 ct4 : Value}
    (a4 : PySem.W.nsIn K mainGlobals "waits_for" = some (some (.ref f4)))
    (l4 : K.lookup f4 = some ⟨oc4, od4, .func (PySem.W.fnOf "waits_for" "waits_for" (defArgs s_waits_for) (defBody s_waits_for) (defScope s_waits_for) .none kV4 dc4 pm4 an4 cd4 ct4), sl4⟩)
    (c4 : PySem.W.codeIn K cd4 "waits_for" = true) (k4 : PySem.W.keepIn K (.ref f4) = true)
    {f5 : Addr} {od5 an5 : Option Addr} {sl5 : Array (Option Value)} {oc5 kV5 dc5 pm5 cd5 ct5 : Value}
    (a5 : PySem.W.nsIn K mainGlobals "ready" = some (some (.ref f5)))
    (l5 : K.lookup f5 = some ⟨oc5, od5, .func (PySem.W.fnOf "ready" "ready" (defArgs s_ready) (defBody s_ready) (defScope s_ready) .none kV5 dc5 pm5 an5 cd5 ct5), sl5⟩)
    (c5 : PySem.W.codeIn K cd5 "ready" = true) (k5 : PySem.W.keepIn K (.ref f5) = true)
    {f6 : Addr} {od6 an6 : Option Addr} {sl6 : Array (Option Value)} {oc6 kV6 dc6 pm6 cd6 ct6 : Value}
    (a6 : PySem.W.nsIn K mainGlobals "next_layer" = some (some (.ref f6)))
    (l6 : K.lookup f6 = some ⟨oc6, od6, .func (PySem.W.fnOf "next_layer" "next_layer" (defArgs s_next_layer) (defBody s_next_layer) (defScope s_next_layer) .none kV6 dc6 pm6 an6 cd6 ct6), sl6⟩)
    (c6 : PySem.W.codeIn K cd6 "next_layer" = true) (k6 : PySem.W.keepIn K (.ref f6) = true)
    {f7 : Addr} {od7 an7 : Option Addr} {sl7 : Array (Option Value)} {oc7 kV7 dc7 pm7 cd7 ct7 : Value}
    (a7 : PySem.W.nsIn K mainGlobals "layers" = some (some (.ref f7)))
    (l7 : K.lookup f7 = some ⟨oc7, od7, .func (PySem.W.fnOf "layers" "layers" (defArgs s_layers) (defBody s_layers) (defScope s_layers) .none kV7 dc7 pm7 an7 cd7 ct7), sl7⟩)
    (c7 : PySem.W.codeIn K cd7 "layers" = true) (k7 : PySem.W.keepIn K (.ref f7) = true)
    {f8 : Addr} {od8 an8 : Option Addr} {sl8 : Array (Option Value)} {oc8 kV8 dc8 pm8 cd8 ct8 : Value}
    (a8 : PySem.W.nsIn K mainGlobals "how_many_cuts" = some (some (.ref f8)))
    {dT8 : Addr} {tc8 : Value} {td8 : Option Addr} {tn8 : Nat} {tsl8 : Array (Option Value)} {dtk8 : Tok}
    (l8 : K.lookup f8 = some ⟨oc8, od8, .func (PySem.W.fnOf "how_many_cuts" "how_many_cuts" (defArgs s_how_many_cuts) (defBody s_how_many_cuts) (defScope s_how_many_cuts) (.ref dT8) kV8 dc8 pm8 an8 cd8 ct8), sl8⟩)
    (t8 : K.lookup dT8 = some ⟨tc8, td8, .seq #[.int 2000 dtk8] tn8, tsl8⟩)
    (c8 : PySem.W.codeIn K cd8 "how_many_cuts" = true) (k8 : PySem.W.keepIn K (.ref f8) = true)
    {f9 : Addr} {od9 an9 : Option Addr} {sl9 : Array (Option Value)} {oc9 kV9 dc9 pm9 cd9 ct9 : Value}
    (a9 : PySem.W.nsIn K mainGlobals "how_many_orders" = some (some (.ref f9)))
    {dT9 : Addr} {tc9 : Value} {td9 : Option Addr} {tn9 : Nat} {tsl9 : Array (Option Value)} {dtk9 : Tok}
    (l9 : K.lookup f9 = some ⟨oc9, od9, .func (PySem.W.fnOf "how_many_orders" "how_many_orders" (defArgs s_how_many_orders) (defBody s_how_many_orders) (defScope s_how_many_orders) (.ref dT9) kV9 dc9 pm9 an9 cd9 ct9), sl9⟩)
    (t9 : K.lookup dT9 = some ⟨tc9, td9, .seq #[.int 2000 dtk9] tn9, tsl9⟩)
    (c9 : PySem.W.codeIn K cd9 "how_many_orders" = true) (k9 : PySem.W.keepIn K (.ref f9) = true)
    {f10 : Addr} {od10 an10 : Option Addr} {sl10 : Array (Option Value)} {oc10 kV10 dc10 pm10 cd10 ct10 : Value}
    (a10 : PySem.W.nsIn K mainGlobals "_law_bag" = some (some (.ref f10)))
    (l10 : K.lookup f10 = some ⟨oc10, od10, .func (PySem.W.fnOf "_law_bag" "_law_bag" (defArgs s_law_bag) (defBody s_law_bag) (defScope s_law_bag) .none kV10 dc10 pm10 an10 cd10 ct10), sl10⟩)
    (c10 : PySem.W.codeIn K cd10 "_law_bag" = true) (k10 : PySem.W.keepIn K (.ref f10) = true)
    {f11 : Addr} {od11 an11 : Option Addr} {sl11 : Array (Option Value)} {oc11 kV11 dc11 pm11 cd11 ct11 : Value}
    (a11 : PySem.W.nsIn K mainGlobals "_law_stir" = some (some (.ref f11)))
    (l11 : K.lookup f11 = some ⟨oc11, od11, .func (PySem.W.fnOf "_law_stir" "_law_stir" (defArgs s_law_stir) (defBody s_law_stir) (defScope s_law_stir) .none kV11 dc11 pm11 an11 cd11 ct11), sl11⟩)
    (c11 : PySem.W.codeIn K cd11 "_law_stir" = true) (k11 : PySem.W.keepIn K (.ref f11) = true)
    {f12 : Addr} {od12 an12 : Option Addr} {sl12 : Array (Option Value)} {oc12 kV12 dc12 pm12 cd12 ct12 : Value}
    (a12 : PySem.W.nsIn K mainGlobals "_law_draw" = some (some (.ref f12)))
    (l12 : K.lookup f12 = some ⟨oc12, od12, .func (PySem.W.fnOf "_law_draw" "_law_draw" (defArgs s_law_draw) (defBody s_law_draw) (defScope s_law_draw) .none kV12 dc12 pm12 an12 cd12 ct12), sl12⟩)
    (c12 : PySem.W.codeIn K cd12 "_law_draw" = true) (k12 : PySem.W.keepIn K (.ref f12) = true)
    {f13 : Addr} {od13 an13 : Option Addr} {sl13 : Array (Option Value)} {oc13 kV13 dc13 pm13 cd13 ct13 : Value}
    (a13 : PySem.W.nsIn K mainGlobals "_law_counts" = some (some (.ref f13)))
    (l13 : K.lookup f13 = some ⟨oc13, od13, .func (PySem.W.fnOf "_law_counts" "_law_counts" (defArgs s_law_counts) (defBody s_law_counts) (defScope s_law_counts) .none kV13 dc13 pm13 an13 cd13 ct13), sl13⟩)
    (c13 : PySem.W.codeIn K cd13 "_law_counts" = true) (k13 : PySem.W.keepIn K (.ref f13) = true)
    {f14 : Addr} {od14 an14 : Option Addr} {sl14 : Array (Option Value)} {oc14 kV14 dc14 pm14 cd14 ct14 : Value}
    (a14 : PySem.W.nsIn K mainGlobals "_law_order" = some (some (.ref f14)))
    (l14 : K.lookup f14 = some ⟨oc14, od14, .func (PySem.W.fnOf "_law_order" "_law_order" (defArgs s_law_order) (defBody s_law_order) (defScope s_law_order) .none kV14 dc14 pm14 an14 cd14 ct14), sl14⟩)
    (c14 : PySem.W.codeIn K cd14 "_law_order" = true) (k14 : PySem.W.keepIn K (.ref f14) = true)
    {f15 : Addr} {od15 an15 : Option Addr} {sl15 : Array (Option Value)} {oc15 kV15 dc15 pm15 cd15 ct15 : Value}
    (a15 : PySem.W.nsIn K mainGlobals "_law_spots" = some (some (.ref f15)))
    (l15 : K.lookup f15 = some ⟨oc15, od15, .func (PySem.W.fnOf "_law_spots" "_law_spots" (defArgs s_law_spots) (defBody s_law_spots) (defScope s_law_spots) .none kV15 dc15 pm15 an15 cd15 ct15), sl15⟩)
    (c15 : PySem.W.codeIn K cd15 "_law_spots" = true) (k15 : PySem.W.keepIn K (.ref f15) = true)
    {f16 : Addr} {od16 an16 : Option Addr} {sl16 : Array (Option Value)} {oc16 kV16 dc16 pm16 cd16 ct16 : Value}
    (a16 : PySem.W.nsIn K mainGlobals "_law_note" = some (some (.ref f16)))
    (l16 : K.lookup f16 = some ⟨oc16, od16, .func (PySem.W.fnOf "_law_note" "_law_note" (defArgs s_law_note) (defBody s_law_note) (defScope s_law_note) .none kV16 dc16 pm16 an16 cd16 ct16), sl16⟩)
    (c16 : PySem.W.codeIn K cd16 "_law_note" = true) (k16 : PySem.W.keepIn K (.ref f16) = true)
    {f17 : Addr} {od17 an17 : Option Addr} {sl17 : Array (Option Value)} {oc17 kV17 dc17 pm17 cd17 ct17 : Value}
    (a17 : PySem.W.nsIn K mainGlobals "_law_record" = some (some (.ref f17)))
    (l17 : K.lookup f17 = some ⟨oc17, od17, .func (PySem.W.fnOf "_law_record" "_law_record" (defArgs s_law_record) (defBody s_law_record) (defScope s_law_record) .none kV17 dc17 pm17 an17 cd17 ct17), sl17⟩)
    (c17 : PySem.W.codeIn K cd17 "_law_record" = true) (k17 : PySem.W.keepIn K (.ref f17) = true)
    {f18 : Addr} {od18 an18 : Option Addr} {sl18 : Array (Option Value)} {oc18 kV18 dc18 pm18 cd18 ct18 : Value}
    (a18 : PySem.W.nsIn K mainGlobals "_law_copy" = some (some (.ref f18)))
    (l18 : K.lookup f18 = some ⟨oc18, od18, .func (PySem.W.fnOf "_law_copy" "_law_copy" (defArgs s_law_copy) (defBody s_law_copy) (defScope s_law_copy) .none kV18 dc18 pm18 an18 cd18 ct18), sl18⟩)
    (c18 : PySem.W.codeIn K cd18 "_law_copy" = true) (k18 : PySem.W.keepIn K (.ref f18) = true)
    {f19 : Addr} {od19 an19 : Option Addr} {sl19 : Array (Option Value)} {oc19 kV19 dc19 pm19 cd19 ct19 : Value}
    (a19 : PySem.W.nsIn K mainGlobals "_law_wide" = some (some (.ref f19)))
    (l19 : K.lookup f19 = some ⟨oc19, od19, .func (PySem.W.fnOf "_law_wide" "_law_wide" (defArgs s_law_wide) (defBody s_law_wide) (defScope s_law_wide) .none kV19 dc19 pm19 an19 cd19 ct19), sl19⟩)
    (c19 : PySem.W.codeIn K cd19 "_law_wide" = true) (k19 : PySem.W.keepIn K (.ref f19) = true)
    {f20 : Addr} {od20 an20 : Option Addr} {sl20 : Array (Option Value)} {oc20 kV20 dc20 pm20 cd20 ct20 : Value}
    (a20 : PySem.W.nsIn K mainGlobals "_law_layer" = some (some (.ref f20)))
    (l20 : K.lookup f20 = some ⟨oc20, od20, .func (PySem.W.fnOf "_law_layer" "_law_layer" (defArgs s_law_layer) (defBody s_law_layer) (defScope s_law_layer) .none kV20 dc20 pm20 an20 cd20 ct20), sl20⟩)
    (c20 : PySem.W.codeIn K cd20 "_law_layer" = true) (k20 : PySem.W.keepIn K (.ref f20) = true)
    {f21 : Addr} {od21 an21 : Option Addr} {sl21 : Array (Option Value)} {oc21 kV21 dc21 pm21 cd21 ct21 : Value}
    (a21 : PySem.W.nsIn K mainGlobals "_law_counted" = some (some (.ref f21)))
    (l21 : K.lookup f21 = some ⟨oc21, od21, .func (PySem.W.fnOf "_law_counted" "_law_counted" (defArgs s_law_counted) (defBody s_law_counted) (defScope s_law_counted) .none kV21 dc21 pm21 an21 cd21 ct21), sl21⟩)
    (c21 : PySem.W.codeIn K cd21 "_law_counted" = true) (k21 : PySem.W.keepIn K (.ref f21) = true)
    {f22 : Addr} {od22 an22 : Option Addr} {sl22 : Array (Option Value)} {oc22 kV22 dc22 pm22 cd22 ct22 : Value}
    (a22 : PySem.W.nsIn K mainGlobals "_law_cuts" = some (some (.ref f22)))
    (l22 : K.lookup f22 = some ⟨oc22, od22, .func (PySem.W.fnOf "_law_cuts" "_law_cuts" (defArgs s_law_cuts) (defBody s_law_cuts) (defScope s_law_cuts) .none kV22 dc22 pm22 an22 cd22 ct22), sl22⟩)
    (c22 : PySem.W.codeIn K cd22 "_law_cuts" = true) (k22 : PySem.W.keepIn K (.ref f22) = true)
    {f23 : Addr} {od23 an23 : Option Addr} {sl23 : Array (Option Value)} {oc23 kV23 dc23 pm23 cd23 ct23 : Value}
    (a23 : PySem.W.nsIn K mainGlobals "_law_orders" = some (some (.ref f23)))
    (l23 : K.lookup f23 = some ⟨oc23, od23, .func (PySem.W.fnOf "_law_orders" "_law_orders" (defArgs s_law_orders) (defBody s_law_orders) (defScope s_law_orders) .none kV23 dc23 pm23 an23 cd23 ct23), sl23⟩)
    (c23 : PySem.W.codeIn K cd23 "_law_orders" = true) (k23 : PySem.W.keepIn K (.ref f23) = true)
    {f24 : Addr} {od24 an24 : Option Addr} {sl24 : Array (Option Value)} {oc24 kV24 dc24 pm24 cd24 ct24 : Value}
    (a24 : PySem.W.nsIn K mainGlobals "_law_is" = some (some (.ref f24)))
    (l24 : K.lookup f24 = some ⟨oc24, od24, .func (PySem.W.fnOf "_law_is" "_law_is" (defArgs s_law_is) (defBody s_law_is) (defScope s_law_is) .none kV24 dc24 pm24 an24 cd24 ct24), sl24⟩)
    (c24 : PySem.W.codeIn K cd24 "_law_is" = true) (k24 : PySem.W.keepIn K (.ref f24) = true)
    {f25 : Addr} {od25 an25 : Option Addr} {sl25 : Array (Option Value)} {oc25 kV25 dc25 pm25 cd25 ct25 : Value}
    (a25 : PySem.W.nsIn K mainGlobals "law" = some (some (.ref f25)))
    (l25 : K.lookup f25 = some ⟨oc25, od25, .func (PySem.W.fnOf "law" "law" (defArgs s_law) (defBody s_law) (defScope s_law) .none kV25 dc25 pm25 an25 cd25 ct25), sl25⟩)
    (c25 : PySem.W.codeIn K cd25 "law" = true) (k25 : PySem.W.keepIn K (.ref f25) = true)
    (z_len : PySem.W.nsIn K mainGlobals "len" = some none)
    (z_range : PySem.W.nsIn K mainGlobals "range" = some none)
    (z_tuple : PySem.W.nsIn K mainGlobals "tuple" = some none)
    (z_sum : PySem.W.nsIn K mainGlobals "sum" = some none)
    (z_list : PySem.W.nsIn K mainGlobals "list" = some none)
    (z_max : PySem.W.nsIn K mainGlobals "max" = some none)
    (z_sorted : PySem.W.nsIn K mainGlobals "sorted" = some none)
    (z_int : PySem.W.nsIn K mainGlobals "int" = some none)
    (z_isinstance : PySem.W.nsIn K mainGlobals "isinstance" = some none)
    (z_bool : PySem.W.nsIn K mainGlobals "bool" = some none)
    (z_min : PySem.W.nsIn K mainGlobals "min" = some none)
    (h_xx_NoNote : PySem.W.excIn K q_NoNote [.type "ValueError", .type "Exception", .type "BaseException", .type "object"] "ValueError.__new__" = true)
    (h_kk_NoNote : PySem.W.keepIn K (.ref q_NoNote) = true)
    (h_xx_TooMany : PySem.W.excIn K q_TooMany [.type "ValueError", .type "Exception", .type "BaseException", .type "object"] "ValueError.__new__" = true)
    (h_kk_TooMany : PySem.W.keepIn K (.ref q_TooMany) = true)
    (h_bb_NoNote : PySem.W.subIn K (.ref q_NoNote) (.type "BaseException") = some true)
    (h_bb_TooMany : PySem.W.subIn K (.ref q_TooMany) (.type "BaseException") = some true)
    (h_hd_TooMany : PySem.W.hasDictIn K q_TooMany = true)
    (h_tt_NoNote : PySem.W.typeIn K (.ref q_NoNote) = some (.type "type"))
    (h_tt_TooMany : PySem.W.typeIn K (.ref q_TooMany) = some (.type "type"))
    (h_su_NoNote_TooMany : PySem.W.subIn K (.ref q_NoNote) (.ref q_TooMany) = some false)
    (h_su_TooMany_TooMany : PySem.W.subIn K (.ref q_TooMany) (.ref q_TooMany) = some true) :
    ∃ fd : FuncData, (∀ (s : Shared) (v : Value), BindsTo s fd ⟨[v], []⟩ [("script", v)]) ∧ ∀ base : Heap, K.In base → base.Ns mainGlobals mg → FnOk l.prog w K mg base CX0 7 fa fd ["script"] (spLaw K) := by
  have e := hfa.symm.trans (PySem.W.mg_of X G a25)
  cases e
  refine ⟨PySem.W.fnOf "law" "law" (defArgs s_law) (defBody s_law) (defScope s_law) .none kV25 dc25 pm25 an25 cd25 ct25, fun s v => .of_eq rfl, fun base _ _ => ?_⟩
  have xx_NoNote : PySem.W.excIn K ((clx q_NoNote q_TooMany) 0) [.type "ValueError", .type "Exception", .type "BaseException", .type "object"] "ValueError.__new__" = true := h_xx_NoNote
  have gc_NoNote : mg "NoNote" = some (.ref ((clx q_NoNote q_TooMany) 0)) := PySem.W.mg_of X G h_gc_NoNote
  have kk_NoNote : PySem.W.keepIn K (.ref ((clx q_NoNote q_TooMany) 0)) = true := h_kk_NoNote
  have bb_NoNote : PySem.W.subIn K (.ref ((clx q_NoNote q_TooMany) 0)) (.type "BaseException") = some true := h_bb_NoNote
  have tt_NoNote : PySem.W.typeIn K (.ref ((clx q_NoNote q_TooMany) 0)) = some (.type "type") := h_tt_NoNote
  have xx_TooMany : PySem.W.excIn K ((clx q_NoNote q_TooMany) 1) [.type "ValueError", .type "Exception", .type "BaseException", .type "object"] "ValueError.__new__" = true := h_xx_TooMany
  have gc_TooMany : mg "TooMany" = some (.ref ((clx q_NoNote q_TooMany) 1)) := PySem.W.mg_of X G h_gc_TooMany
  have kk_TooMany : PySem.W.keepIn K (.ref ((clx q_NoNote q_TooMany) 1)) = true := h_kk_TooMany
  have bb_TooMany : PySem.W.subIn K (.ref ((clx q_NoNote q_TooMany) 1)) (.type "BaseException") = some true := h_bb_TooMany
  have tt_TooMany : PySem.W.typeIn K (.ref ((clx q_NoNote q_TooMany) 1)) = some (.type "type") := h_tt_TooMany
  have exm_TooMany : ∀ n, PySem.W.exmOne K (.ref ((clx q_NoNote q_TooMany) n)) (.ref ((clx q_NoNote q_TooMany) 1)) = some (sub_TooMany n) := fun n => match n with | 0 => PySem.W.exm_ref h_bb_TooMany h_hd_TooMany h_tt_TooMany h_su_NoNote_TooMany | 1 => PySem.W.exm_ref h_bb_TooMany h_hd_TooMany h_tt_TooMany h_su_TooMany_TooMany | n + 2 => PySem.W.exm_ref h_bb_TooMany h_hd_TooMany h_tt_TooMany h_su_NoNote_TooMany
  have F1 := fun_mk (st := s_is_touch) l1 c1 k1
  have b1 := F1.binds (ps := ["counts", "hand", "k"]) fun _ _ _ _ _ _ us hl => match us, hl with | [_, _, _], _ => rfl
  have F2 := fun_mk (st := s_need_record) l2 c2 k2
  have b2 := F2.binds (ps := ["record"]) fun _ _ _ _ _ _ us hl => match us, hl with | [_], _ => rfl
  have F3 := fun_mk (st := s_firsts_of) l3 c3 k3
  have b3 := F3.binds (ps := ["record"]) fun _ _ _ _ _ _ us hl => match us, hl with | [_], _ => rfl
  have F4 := fun_mk (st := s_waits_for) l4 c4 k4
  have b4 := F4.binds (ps := ["firsts", "now", "hand"]) fun _ _ _ _ _ _ us hl => match us, hl with | [_, _, _], _ => rfl
  have F5 := fun_mk (st := s_ready) l5 c5 k5
  have b5 := F5.binds (ps := ["counts", "firsts", "now"]) fun _ _ _ _ _ _ us hl => match us, hl with | [_, _, _], _ => rfl
  have F6 := fun_mk (st := s_next_layer) l6 c6 k6
  have b6 := F6.binds (ps := ["counts", "firsts", "here"]) fun _ _ _ _ _ _ us hl => match us, hl with | [_, _, _], _ => rfl
  have F7 := fun_mk (st := s_layers) l7 c7 k7
  have b7 := F7.binds (ps := ["record", "most"]) fun _ _ _ _ _ _ us hl => match us, hl with | [_, _], _ => rfl
  have F8 := fund_mk (st := s_how_many_cuts) l8 c8 k8 t8
  have b8 := F8.pos2 (a := "record") (b := "most") fun _ _ _ _ _ _ _ us its hu hi => match us, its, hu, hi with | [_, _], [_], _, _ => ⟨_, rfl, rfl⟩
  have kb8 := F8.kw1 (a := "record") (b := "most") fun _ _ _ _ _ _ _ us its ws hu hi hw => match us, its, ws, hu, hi, hw with | [_], [_], [_], _, _, _ => ⟨_, rfl, rfl⟩
  obtain ⟨dt8, bd8⟩ := F8.dflI (ps := ["record", "most"]) 1 rfl fun _ _ _ _ _ _ _ us its hu hi => match us, its, hu, hi with | [_], [_], _, _ => ⟨_, rfl, rfl⟩
  have F9 := fund_mk (st := s_how_many_orders) l9 c9 k9 t9
  have b9 := F9.pos2 (a := "record") (b := "most") fun _ _ _ _ _ _ _ us its hu hi => match us, its, hu, hi with | [_, _], [_], _, _ => ⟨_, rfl, rfl⟩
  have kb9 := F9.kw1 (a := "record") (b := "most") fun _ _ _ _ _ _ _ us its ws hu hi hw => match us, its, ws, hu, hi, hw with | [_], [_], [_], _, _, _ => ⟨_, rfl, rfl⟩
  obtain ⟨dt9, bd9⟩ := F9.dflI (ps := ["record", "most"]) 1 rfl fun _ _ _ _ _ _ _ us its hu hi => match us, its, hu, hi with | [_], [_], _, _ => ⟨_, rfl, rfl⟩
  have F10 := fun_mk (st := s_law_bag) l10 c10 k10
  have b10 := F10.binds (ps := ["script"]) fun _ _ _ _ _ _ us hl => match us, hl with | [_], _ => rfl
  have F11 := fun_mk (st := s_law_stir) l11 c11 k11
  have b11 := F11.binds (ps := ["number", "place"]) fun _ _ _ _ _ _ us hl => match us, hl with | [_, _], _ => rfl
  have F12 := fun_mk (st := s_law_draw) l12 c12 k12
  have b12 := F12.binds (ps := ["bag", "many"]) fun _ _ _ _ _ _ us hl => match us, hl with | [_, _], _ => rfl
  have F13 := fun_mk (st := s_law_counts) l13 c13 k13
  have b13 := F13.binds (ps := ["bag", "great"]) fun _ _ _ _ _ _ us hl => match us, hl with | [_, _], _ => rfl
  have F14 := fun_mk (st := s_law_order) l14 c14 k14
  have b14 := F14.binds (ps := ["bag", "counts"]) fun _ _ _ _ _ _ us hl => match us, hl with | [_, _], _ => rfl
  have F15 := fun_mk (st := s_law_spots) l15 c15 k15
  have b15 := F15.binds (ps := ["order"]) fun _ _ _ _ _ _ us hl => match us, hl with | [_], _ => rfl
  have F16 := fun_mk (st := s_law_note) l16 c16 k16
  have b16 := F16.binds (ps := ["bag", "counts"]) fun _ _ _ _ _ _ us hl => match us, hl with | [_, _], _ => rfl
  have F17 := fun_mk (st := s_law_record) l17 c17 k17
  have b17 := F17.binds (ps := ["bag", "great"]) fun _ _ _ _ _ _ us hl => match us, hl with | [_, _], _ => rfl
  have F18 := fun_mk (st := s_law_copy) l18 c18 k18
  have b18 := F18.binds (ps := ["record"]) fun _ _ _ _ _ _ us hl => match us, hl with | [_], _ => rfl
  have F19 := fun_mk (st := s_law_wide) l19 c19 k19
  have b19 := F19.binds (ps := ["bag"]) fun _ _ _ _ _ _ us hl => match us, hl with | [_], _ => rfl
  have F20 := fun_mk (st := s_law_layer) l20 c20 k20
  have b20 := F20.binds (ps := ["record", "here"]) fun _ _ _ _ _ _ us hl => match us, hl with | [_, _], _ => rfl
  have F21 := fun_mk (st := s_law_counted) l21 c21 k21
  have b21 := F21.binds (ps := ["record"]) fun _ _ _ _ _ _ us hl => match us, hl with | [_], _ => rfl
  have F22 := fun_mk (st := s_law_cuts) l22 c22 k22
  have b22 := F22.binds (ps := ["record", "kind", "limit"]) fun _ _ _ _ _ _ us hl => match us, hl with | [_, _, _], _ => rfl
  have F23 := fun_mk (st := s_law_orders) l23 c23 k23
  have b23 := F23.binds (ps := ["record", "kind", "limit"]) fun _ _ _ _ _ _ us hl => match us, hl with | [_, _, _], _ => rfl
  have F24 := fun_mk (st := s_law_is) l24 c24 k24
  have b24 := F24.binds (ps := ["found", "due"]) fun _ _ _ _ _ _ us hl => match us, hl with | [_, _], _ => rfl
  have F25 := fun_mk (st := s_law) l25 c25 k25
  have b25 := F25.binds (ps := ["script"]) fun _ _ _ _ _ _ us hl => match us, hl with | [_], _ => rfl
  have o1 := ok_is_touch (cl := (clx q_NoNote q_TooMany)) (P := l.prog) (w := w) (mg := mg) (base := base) F1 (PySem.W.mg_none_of X G z_len)
  have c_is_touch : Cal l.prog w K mg base CX0 "is_touch" ["counts", "hand", "k"] 1 (sp_is_touch K (clx q_NoNote q_TooMany)) f1 _ := ⟨o1, PySem.W.mg_of X G a1, k1, b1⟩
  have o2 := ok_need_record (cl := (clx q_NoNote q_TooMany)) (P := l.prog) (w := w) (mg := mg) (base := base) F2 c_is_touch xx_NoNote gc_NoNote kk_NoNote bb_NoNote tt_NoNote
  have c_need_record : Cal l.prog w K mg base (L2.CX l.prog w) "need_record" ["record"] 2 (sp_need_record K (clx q_NoNote q_TooMany)) f2 _ := ⟨o2, PySem.W.mg_of X G a2, k2, b2⟩
  have o3 := ok_firsts_of (cl := (clx q_NoNote q_TooMany)) (P := l.prog) (w := w) (mg := mg) (base := base) F3 
  have c_firsts_of : Cal l.prog w K mg base CX0 "firsts_of" ["record"] 1 (sp_firsts_of K (clx q_NoNote q_TooMany)) f3 _ := ⟨o3, PySem.W.mg_of X G a3, k3, b3⟩
  have o4 := ok_waits_for (cl := (clx q_NoNote q_TooMany)) (P := l.prog) (w := w) (mg := mg) (base := base) F4 
  have c_waits_for : Cal l.prog w K mg base CX0 "waits_for" ["firsts", "now", "hand"] 1 (sp_waits_for K (clx q_NoNote q_TooMany)) f4 _ := ⟨o4, PySem.W.mg_of X G a4, k4, b4⟩
  have o5 := ok_ready (cl := (clx q_NoNote q_TooMany)) (P := l.prog) (w := w) (mg := mg) (base := base) F5 c_waits_for (PySem.W.mg_none_of X G z_len) (PySem.W.mg_none_of X G z_range)
  have c_ready : Cal l.prog w K mg base CX0 "ready" ["counts", "firsts", "now"] 2 (sp_ready K (clx q_NoNote q_TooMany)) f5 _ := ⟨o5, PySem.W.mg_of X G a5, k5, b5⟩
  have o6 := ok_next_layer (cl := (clx q_NoNote q_TooMany)) (P := l.prog) (w := w) (mg := mg) (base := base) F6 c_ready
  have c_next_layer : Cal l.prog w K mg base CX0 "next_layer" ["counts", "firsts", "here"] 3 (sp_next_layer K (clx q_NoNote q_TooMany)) f6 _ := ⟨o6, PySem.W.mg_of X G a6, k6, b6⟩
  have o7 := ok_layers (cl := (clx q_NoNote q_TooMany)) (P := l.prog) (w := w) (mg := mg) (base := base) F7 c_need_record c_firsts_of c_next_layer (PySem.W.mg_none_of X G z_len) (PySem.W.mg_none_of X G z_tuple) (PySem.W.mg_none_of X G z_sum) (PySem.W.mg_none_of X G z_range) xx_TooMany gc_TooMany kk_TooMany bb_TooMany tt_TooMany
  have c_layers : Cal l.prog w K mg base (L2.CX l.prog w) "layers" ["record", "most"] 4 (sp_layers K (clx q_NoNote q_TooMany)) f7 _ := ⟨o7, PySem.W.mg_of X G a7, k7, b7⟩
  have o8 := ok_how_many_cuts (cl := (clx q_NoNote q_TooMany)) (P := l.prog) (w := w) (mg := mg) (base := base) F8 c_layers
  have c_how_many_cuts : Cal l.prog w K mg base (L2.CX l.prog w) "how_many_cuts" ["record", "most"] 5 (sp_how_many_cuts K (clx q_NoNote q_TooMany)) f8 _ := ⟨o8, PySem.W.mg_of X G a8, k8, b8⟩
  have o9 := ok_how_many_orders (cl := (clx q_NoNote q_TooMany)) (P := l.prog) (w := w) (mg := mg) (base := base) F9 c_layers
  have c_how_many_orders : Cal l.prog w K mg base (L2.CX l.prog w) "how_many_orders" ["record", "most"] 5 (sp_how_many_orders K (clx q_NoNote q_TooMany)) f9 _ := ⟨o9, PySem.W.mg_of X G a9, k9, b9⟩
  have o10 := ok_law_bag (cl := (clx q_NoNote q_TooMany)) (P := l.prog) (w := w) (mg := mg) (base := base) F10 (PySem.W.mg_none_of X G z_list)
  have c_law_bag : Cal l.prog w K mg base CX0 "_law_bag" ["script"] 1 (sp_law_bag K (clx q_NoNote q_TooMany)) f10 _ := ⟨o10, PySem.W.mg_of X G a10, k10, b10⟩
  have o11 := ok_law_stir (cl := (clx q_NoNote q_TooMany)) (P := l.prog) (w := w) (mg := mg) (base := base) F11 
  have c_law_stir : Cal l.prog w K mg base CX0 "_law_stir" ["number", "place"] 1 (sp_law_stir K (clx q_NoNote q_TooMany)) f11 _ := ⟨o11, PySem.W.mg_of X G a11, k11, b11⟩
  have o12 := ok_law_draw (cl := (clx q_NoNote q_TooMany)) (P := l.prog) (w := w) (mg := mg) (base := base) F12 c_law_stir (PySem.W.mg_none_of X G z_len)
  have c_law_draw : Cal l.prog w K mg base CX0 "_law_draw" ["bag", "many"] 2 (sp_law_draw K (clx q_NoNote q_TooMany)) f12 _ := ⟨o12, PySem.W.mg_of X G a12, k12, b12⟩
  have o13 := ok_law_counts (cl := (clx q_NoNote q_TooMany)) (P := l.prog) (w := w) (mg := mg) (base := base) F13 c_law_draw (PySem.W.mg_none_of X G z_range) (PySem.W.mg_none_of X G z_max)
  have c_law_counts : Cal l.prog w K mg base CX0 "_law_counts" ["bag", "great"] 3 (sp_law_counts K (clx q_NoNote q_TooMany)) f13 _ := ⟨o13, PySem.W.mg_of X G a13, k13, b13⟩
  have o14 := ok_law_order (cl := (clx q_NoNote q_TooMany)) (P := l.prog) (w := w) (mg := mg) (base := base) F14 c_law_draw (PySem.W.mg_none_of X G z_list) (PySem.W.mg_none_of X G z_sum) (PySem.W.mg_none_of X G z_range) (PySem.W.mg_none_of X G z_len)
  have c_law_order : Cal l.prog w K mg base CX0 "_law_order" ["bag", "counts"] 3 (sp_law_order K (clx q_NoNote q_TooMany)) f14 _ := ⟨o14, PySem.W.mg_of X G a14, k14, b14⟩
  have o15 := ok_law_spots (cl := (clx q_NoNote q_TooMany)) (P := l.prog) (w := w) (mg := mg) (base := base) F15 (PySem.W.mg_none_of X G z_len) (PySem.W.mg_none_of X G z_range)
  have c_law_spots : Cal l.prog w K mg base CX0 "_law_spots" ["order"] 1 (sp_law_spots K (clx q_NoNote q_TooMany)) f15 _ := ⟨o15, PySem.W.mg_of X G a15, k15, b15⟩
  have o16 := ok_law_note (cl := (clx q_NoNote q_TooMany)) (P := l.prog) (w := w) (mg := mg) (base := base) F16 c_law_draw (PySem.W.mg_none_of X G z_len) (PySem.W.mg_none_of X G z_range)
  have c_law_note : Cal l.prog w K mg base CX0 "_law_note" ["bag", "counts"] 3 (sp_law_note K (clx q_NoNote q_TooMany)) f16 _ := ⟨o16, PySem.W.mg_of X G a16, k16, b16⟩
  have o17 := ok_law_record (cl := (clx q_NoNote q_TooMany)) (P := l.prog) (w := w) (mg := mg) (base := base) F17 c_law_draw c_law_counts c_law_spots c_law_order c_law_note (PySem.W.mg_none_of X G z_range) (PySem.W.mg_none_of X G z_len)
  have c_law_record : Cal l.prog w K mg base CX0 "_law_record" ["bag", "great"] 4 (sp_law_record K (clx q_NoNote q_TooMany)) f17 _ := ⟨o17, PySem.W.mg_of X G a17, k17, b17⟩
  have o18 := ok_law_copy (cl := (clx q_NoNote q_TooMany)) (P := l.prog) (w := w) (mg := mg) (base := base) F18 (PySem.W.mg_none_of X G z_list)
  have c_law_copy : Cal l.prog w K mg base CX0 "_law_copy" ["record"] 1 (sp_law_copy K (clx q_NoNote q_TooMany)) f18 _ := ⟨o18, PySem.W.mg_of X G a18, k18, b18⟩
  have o19 := ok_law_wide (cl := (clx q_NoNote q_TooMany)) (P := l.prog) (w := w) (mg := mg) (base := base) F19 c_law_draw c_law_note (PySem.W.mg_none_of X G z_range) (PySem.W.mg_none_of X G z_len)
  have c_law_wide : Cal l.prog w K mg base CX0 "_law_wide" ["bag"] 4 (sp_law_wide K (clx q_NoNote q_TooMany)) f19 _ := ⟨o19, PySem.W.mg_of X G a19, k19, b19⟩
  have o20 := ok_law_layer (cl := (clx q_NoNote q_TooMany)) (P := l.prog) (w := w) (mg := mg) (base := base) F20 (PySem.W.mg_none_of X G z_sorted) (PySem.W.mg_none_of X G z_len) (PySem.W.mg_none_of X G z_range) (PySem.W.mg_none_of X G z_int) (PySem.W.mg_none_of X G z_tuple)
  have c_law_layer : Cal l.prog w K mg base CX0 "_law_layer" ["record", "here"] 1 (sp_law_layer K (clx q_NoNote q_TooMany)) f20 _ := ⟨o20, PySem.W.mg_of X G a20, k20, b20⟩
  have o21 := ok_law_counted (cl := (clx q_NoNote q_TooMany)) (P := l.prog) (w := w) (mg := mg) (base := base) F21 c_law_layer (PySem.W.mg_none_of X G z_len) (PySem.W.mg_none_of X G z_tuple) (PySem.W.mg_none_of X G z_sum) (PySem.W.mg_none_of X G z_range)
  have c_law_counted : Cal l.prog w K mg base CX0 "_law_counted" ["record"] 2 (sp_law_counted K (clx q_NoNote q_TooMany)) f21 _ := ⟨o21, PySem.W.mg_of X G a21, k21, b21⟩
  have o22 := ok_law_cuts (cl := (clx q_NoNote q_TooMany)) (P := l.prog) (w := w) (mg := mg) (base := base) F22 c_how_many_cuts kb8 bd8 gc_TooMany exm_TooMany
  have c_law_cuts : Cal l.prog w K mg base CX0 "_law_cuts" ["record", "kind", "limit"] 6 (sp_law_cuts K (clx q_NoNote q_TooMany)) f22 _ := ⟨o22, PySem.W.mg_of X G a22, k22, b22⟩
  have o23 := ok_law_orders (cl := (clx q_NoNote q_TooMany)) (P := l.prog) (w := w) (mg := mg) (base := base) F23 c_how_many_orders kb9 bd9 gc_TooMany exm_TooMany
  have c_law_orders : Cal l.prog w K mg base CX0 "_law_orders" ["record", "kind", "limit"] 6 (sp_law_orders K (clx q_NoNote q_TooMany)) f23 _ := ⟨o23, PySem.W.mg_of X G a23, k23, b23⟩
  have o24 := ok_law_is (cl := (clx q_NoNote q_TooMany)) (P := l.prog) (w := w) (mg := mg) (base := base) F24 (PySem.W.mg_none_of X G z_isinstance) (PySem.W.mg_none_of X G z_int) (PySem.W.mg_none_of X G z_bool)
  have c_law_is : Cal l.prog w K mg base CX0 "_law_is" ["found", "due"] 1 (sp_law_is K (clx q_NoNote q_TooMany)) f24 _ := ⟨o24, PySem.W.mg_of X G a24, k24, b24⟩
  have o25 := ok_law (cl := (clx q_NoNote q_TooMany)) (P := l.prog) (w := w) (mg := mg) (base := base) F25 c_law_bag c_law_draw c_law_wide c_law_record c_law_counted c_law_copy c_law_is c_law_cuts c_law_orders (PySem.W.mg_none_of X G z_int) (PySem.W.mg_none_of X G z_min) (PySem.W.mg_none_of X G z_max)
  refine FnOk.imp o25 fun vs H Q E hq => ?_
  obtain ⟨a, ns, rfl, hS, hl, q⟩ := hq
  refine ⟨[], H, .ref a, ns, rfl, ⟨Same.refl _, (fun r hr => nomatch hr), List.nodup_nil, (fun r hr => nomatch hr)⟩, ⟨a, _, rfl, ints_dl, .inl hS⟩, run_mono' (law_true hl) fun r hr v H' Ho' e z d => ?_⟩
  subst hr
  rw [d_bool d]
  exact q H'
end M
open PySem PySem.W PyProof.Rows
set_option maxHeartbeats 0 in
theorem PySem.Challenge.cw_fewnotes_k41_cuts_and_orders_counted_holds : PySem.Challenge.rw_fewnotes_k41_cuts_and_orders_counted.Holds := by
  w_on; o_law; k_head; (case hw => w_witness2)
  k_fill
  refine L2.walk_of (l := PySem.Challenge.rw_fewnotes_k41_cuts_and_orders_counted) (n := 63) (k := 7) (x := "script") (CX := fun _ => L2.CX0) (sp := fun w => M.spLaw _) rfl (by decide) rfl ⟨rfl, by decide, by decide⟩ (fun w h Y => PySem.W.kIn_of Y) ?F (fun _ _ a ns hl _ hS => ⟨a, ns, rfl, hS, hl, fun _ => rfl⟩) (fun _ _ _ _ _ h => h)
  case F =>
    intro w mg fa h KX G hmg
    refine' M.all_mk KX G hmg ?h_gc_NoNote ?h_gc_TooMany ?a1 ?l1 ?c1 ?k1 ?a2 ?l2 ?c2 ?k2 ?a3 ?l3 ?c3 ?k3 ?a4 ?l4 ?c4 ?k4 ?a5 ?l5 ?c5 ?k5 ?a6 ?l6 ?c6 ?k6 ?a7 ?l7 ?c7 ?k7 ?a8 ?l8 ?t8 ?c8 ?k8 ?a9 ?l9 ?t9 ?c9 ?k9 ?a10 ?l10 ?c10 ?k10 ?a11 ?l11 ?c11 ?k11 ?a12 ?l12 ?c12 ?k12 ?a13 ?l13 ?c13 ?k13 ?a14 ?l14 ?c14 ?k14 ?a15 ?l15 ?c15 ?k15 ?a16 ?l16 ?c16 ?k16 ?a17 ?l17 ?c17 ?k17 ?a18 ?l18 ?c18 ?k18 ?a19 ?l19 ?c19 ?k19 ?a20 ?l20 ?c20 ?k20 ?a21 ?l21 ?c21 ?k21 ?a22 ?l22 ?c22 ?k22 ?a23 ?l23 ?c23 ?k23 ?a24 ?l24 ?c24 ?k24 ?a25 ?l25 ?c25 ?k25 ?z_len ?z_range ?z_tuple ?z_sum ?z_list ?z_max ?z_sorted ?z_int ?z_isinstance ?z_bool ?z_min ?h_xx_NoNote ?h_kk_NoNote ?h_xx_TooMany ?h_kk_TooMany ?h_bb_NoNote ?h_bb_TooMany ?h_hd_TooMany ?h_tt_NoNote ?h_tt_TooMany ?h_su_NoNote_TooMany ?h_su_TooMany_TooMany
    (case h_gc_NoNote => k_is); (case h_gc_TooMany => k_is); (case a1 => k_is); (case l1 => k_is); (case c1 => k_is); (case k1 => k_is); (case a2 => k_is); (case l2 => k_is); (case c2 => k_is); (case k2 => k_is); (case a3 => k_is); (case l3 => k_is); (case c3 => k_is); (case k3 => k_is); (case a4 => k_is); (case l4 => k_is); (case c4 => k_is); (case k4 => k_is); (case a5 => k_is); (case l5 => k_is); (case c5 => k_is); (case k5 => k_is); (case a6 => k_is); (case l6 => k_is); (case c6 => k_is); (case k6 => k_is); (case a7 => k_is); (case l7 => k_is); (case c7 => k_is); (case k7 => k_is); (case a8 => k_is); (case l8 => k_is); (case t8 => k_is); (case c8 => k_is); (case k8 => k_is); (case a9 => k_is); (case l9 => k_is); (case t9 => k_is); (case c9 => k_is); (case k9 => k_is); (case a10 => k_is); (case l10 => k_is); (case c10 => k_is); (case k10 => k_is); (case a11 => k_is); (case l11 => k_is); (case c11 => k_is); (case k11 => k_is); (case a12 => k_is); (case l12 => k_is); (case c12 => k_is); (case k12 => k_is); (case a13 => k_is); (case l13 => k_is); (case c13 => k_is); (case k13 => k_is); (case a14 => k_is); (case l14 => k_is); (case c14 => k_is); (case k14 => k_is); (case a15 => k_is); (case l15 => k_is); (case c15 => k_is); (case k15 => k_is); (case a16 => k_is); (case l16 => k_is); (case c16 => k_is); (case k16 => k_is); (case a17 => k_is); (case l17 => k_is); (case c17 => k_is); (case k17 => k_is); (case a18 => k_is); (case l18 => k_is); (case c18 => k_is); (case k18 => k_is); (case a19 => k_is); (case l19 => k_is); (case c19 => k_is); (case k19 => k_is); (case a20 => k_is); (case l20 => k_is); (case c20 => k_is); (case k20 => k_is); (case a21 => k_is); (case l21 => k_is); (case c21 => k_is); (case k21 => k_is); (case a22 => k_is); (case l22 => k_is); (case c22 => k_is); (case k22 => k_is); (case a23 => k_is); (case l23 => k_is); (case c23 => k_is); (case k23 => k_is); (case a24 => k_is); (case l24 => k_is); (case c24 => k_is); (case k24 => k_is); (case a25 => k_is); (case l25 => k_is); (case c25 => k_is); (case k25 => k_is); (case z_len => k_is); (case z_range => k_is); (case z_tuple => k_is); (case z_sum => k_is); (case z_list => k_is); (case z_max => k_is); (case z_sorted => k_is); (case z_int => k_is); (case z_isinstance => k_is); (case z_bool => k_is); (case z_min => k_is); (case h_xx_NoNote => k_exc); (case h_kk_NoNote => k_is); (case h_xx_TooMany => k_exc); (case h_kk_TooMany => k_is); (case h_bb_NoNote => k_is); (case h_bb_TooMany => k_is); (case h_hd_TooMany => k_is); (case h_tt_NoNote => k_is); (case h_tt_TooMany => k_is); (case h_su_NoNote_TooMany => first | k_is | rfl); (case h_su_TooMany_TooMany => first | k_is | rfl)

