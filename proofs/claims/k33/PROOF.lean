import PyProof.Rows.All
import Wide.All
import OpenK.AllK
import Wide.FinOn
import HandS.ForMost
import HandS.ForExc
import HandS.Wide
import HandS.IsInst
import HandS.Deep
import HandS.SortKw
import HandS.SortRule
import HandS.TupSets
import HandS.ExcIs
import HandS.TryMany
import HandS.StrMore
import HandS.FStr
import HandS.Strs
import HandS.SetFor
import HandS.ListItems
import HandS.SetKeys
import HandS.TupAny
import HandS.Defaults
import KE.DatumOrd
import HandS.SortInts
import HandS.Conv
import HandS.More
import KE.KDictKeyed
import HandS.Style
import HandS.Iter
import HandS.NoneIn
import OpenK.KOps
import KE.KCallOwn
import HandS.SlotsOwn
import HandS.RaiseMore
import PyProof.InstNe
import HandS.SortOrd
import KE.KEqDict
import HandS.DictComp
import PySem.Challenge.RW_fewnotes_k33_whole_no_fewer_strict_notes
set_option Elab.async false
set_option linter.all false
set_option maxRecDepth 100000
set_option maxHeartbeats 4000000
namespace Z
open PySem PySem.Spec PyProof.Rows L2
/-! ### computations by what they promise -/
structure Er where
  cls : Nat
  arg : PyData := .none

structure W (α : Type) where
  go : (α → Prop) → Prop
  mono0 : ∀ (Φ Φ' : α → Prop), (∀ a, Φ a → Φ' a) → go Φ → go Φ'
/-- no projection: two runs are compared by their parts first -/
def W.run {α : Type} (c : W α) (Φ : α → Prop) : Prop := c.go Φ
theorem W.mono {α : Type} (c : W α) (Φ Φ' : α → Prop) (h : ∀ a, Φ a → Φ' a) (q : c.run Φ) : c.run Φ' := c.mono0 Φ Φ' h q

namespace W
variable {α β γ : Type}
def ret (a : α) : W α := ⟨fun Φ => Φ a, fun _ _ h q => h a q⟩
def bind (c : W α) (f : α → W β) : W β := ⟨fun Φ => c.run (fun a => (f a).run Φ), fun Φ Φ' h q => c.mono _ _ (fun a z => (f a).mono _ _ h z) q⟩
def guard (p : Prop) (c : W α) : W α := ⟨fun Φ => p ∧ c.run Φ, fun _ _ h q => ⟨q.1, c.mono _ _ h q.2⟩⟩
def ite (b : Bool) (x y : W α) : W α := ⟨fun Φ => (b = true → x.run Φ) ∧ (b = false → y.run Φ), fun _ _ h q => ⟨fun e => x.mono _ _ h (q.1 e), fun e => y.mono _ _ h (q.2 e)⟩⟩
def opt (o : Option α) : W α := ⟨fun Φ => ∃ a, o = some a ∧ Φ a, fun _ _ h ⟨a, e, q⟩ => ⟨a, e, h a q⟩⟩
def bad : W α := ⟨fun _ => False, fun _ _ _ q => q⟩
end W

/-- an answer, or an error -/
inductive Ex (α : Type) where
  | ok (a : α) | er (e : Er)
/-- how a loop's turn ends -/
inductive Ctl (ρ S : Type) where
  | nx (s : S) | bk (s : S) | rt (r : ρ)

def CtlP {ρ S : Type} (N B : S → Prop) (Φ : ρ → Prop) : Ctl ρ S → Prop
  | .nx s => N s
  | .bk s => B s
  | .rt r => Φ r
theorem ctl_nx {ρ S : Type} {N B : S → Prop} {Φ : ρ → Prop} {s : S} (h : CtlP N B Φ (.nx s)) : N s := h
theorem ctl_bk {ρ S : Type} {N B : S → Prop} {Φ : ρ → Prop} {s : S} (h : CtlP N B Φ (.bk s)) : B s := h
theorem ctl_rt {ρ S : Type} {N B : S → Prop} {Φ : ρ → Prop} {r : ρ} (h : CtlP N B Φ (.rt r)) : Φ r := h
namespace W
variable {α β γ ρ S : Type}
def forL : List α → S → (α → S → W S) → W S
  | [], s, _ => ret s
  | x :: xs, s, f => bind (f x s) fun s' => forL xs s' f
/-- a loop that may be left -/
def forC : List α → S → (α → S → W (Ctl ρ S)) → W (Ctl ρ S)
  | [], s, _ => ret (.nx s)
  | x :: xs, s, f => bind (f x s) fun c => match c with
    | .nx s' => forC xs s' f
    | .bk s' => ret (.nx s')
    | .rt r => ret (.rt r)
def bind2 {α β γ : Type} (c : W (α × β)) (f : α → β → W γ) : W γ := ⟨fun Φ => c.run fun r => (f r.1 r.2).run Φ, fun Φ Φ' h q => c.mono _ _ (fun a z => (f a.1 a.2).mono _ _ h z) q⟩
def bindX {α β : Type} (c : W (Ex α)) (f : α → W (Ex β)) : W (Ex β) := bind c fun r => match r with
  | .ok a => f a
  | .er e => ret (.er e)
def after (c : Ctl ρ S) (k : S → W ρ) : W ρ := match c with
  | .nx s => k s
  | .bk s => k s
  | .rt r => ret r
/-- a while loop: a turn tells whether it is left (bk) -/
def whileN : Nat → S → (S → W (Ctl ρ S)) → W (Ctl ρ S)
  | 0, _, _ => bad
  | n + 1, s, f => bind (f s) fun c => match c with
    | .nx s' => whileN n s' f
    | .bk s' => ret (.nx s')
    | .rt r => ret (.rt r)
def whileL (s : S) (f : S → W (Ctl ρ S)) : W (Ctl ρ S) := ⟨fun Φ => ∃ n, (whileN n s f).run Φ, fun _ _ h ⟨n, q⟩ => ⟨n, (whileN n s f).mono _ _ h q⟩⟩
end W
/-! ### data -/
class Py (α : Type) where
  toPy : α → PyData
abbrev toPy {α : Type} [Py α] (a : α) : PyData := Py.toPy a
structure P3 (α β γ : Type) where
  a : α
  b : β
  c : γ
  deriving DecidableEq
structure P4 (α β γ δ : Type) where
  a : α
  b : β
  c : γ
  d : δ
  deriving DecidableEq
structure P5 (α β γ δ ε : Type) where
  a : α
  b : β
  c : γ
  d : δ
  e : ε
  deriving DecidableEq
/-- a tuple of things of one kind -/
structure Tp (α : Type) where
  l : List α
  deriving DecidableEq
instance : Py Int := ⟨.int⟩
instance : Py Bool := ⟨.bool⟩
instance : Py Str := ⟨.str⟩
instance : Py Unit := ⟨fun _ => .none⟩
instance : Py PyData := ⟨id⟩
instance {α : Type} [Py α] : Py (Option α) := ⟨fun o => match o with | none => .none | some a => toPy a⟩
instance {α : Type} [Py α] : Py (List α) := ⟨fun xs => .list (xs.map Py.toPy)⟩
instance {α : Type} [Py α] : Py (Tp α) := ⟨fun xs => .tuple (xs.l.map Py.toPy)⟩
instance {α β : Type} [Py α] [Py β] : Py (α × β) := ⟨fun p => .tuple [toPy p.1, toPy p.2]⟩
instance {α β γ : Type} [Py α] [Py β] [Py γ] : Py (P3 α β γ) := ⟨fun p => .tuple [toPy p.a, toPy p.b, toPy p.c]⟩
instance {α β γ δ : Type} [Py α] [Py β] [Py γ] [Py δ] : Py (P4 α β γ δ) := ⟨fun p => .tuple [toPy p.a, toPy p.b, toPy p.c, toPy p.d]⟩
instance {α β γ δ ε : Type} [Py α] [Py β] [Py γ] [Py δ] [Py ε] : Py (P5 α β γ δ ε) := ⟨fun p => .tuple [toPy p.a, toPy p.b, toPy p.c, toPy p.d, toPy p.e]⟩
/-! a value is data; each tuple is tracked -/
mutual
inductive Dq (K : PySem.W.Frag) (H : Hp) : V → PyData → Prop
  | non : Dq K H .non .none
  | bl (b : Bool) : Dq K H (.bl b) (.bool b)
  | int (i : Int) : Dq K H (.int i) (.int i)
  | str (x : Str) : Dq K H (.str x) (.str x)
  | lst {a : Addr} {vs : List V} {ds : List PyData} (hs : SqL K H a vs) (hd : DqAll K H vs ds) : Dq K H (.ref a) (.list ds)
  | tup {a : Addr} {vs : List V} {ds : List PyData} (hs : H a = some (.tup vs)) (hd : DqAll K H vs ds) : Dq K H (.ref a) (.tuple ds)
  /-- an instance of a class of the text that stands for good -/
  | ins {a dx C : Addr} {cn : Str} {ns : List Str} {vs : List V} {ds : List PyData} (hC : PySem.W.nsIn K mainGlobals cn = some (some (.ref C))) (hs : H a = some (.ins C dx (ns.zip vs))) (hd : DqAll K H vs ds) : Dq K H (.ref a) (.dict [(.str cn, .list (ns.map .str)), (.none, .tuple ds)])
inductive DqAll (K : PySem.W.Frag) (H : Hp) : List V → List PyData → Prop
  | nil : DqAll K H [] []
  | cons {v : V} {vs : List V} {d : PyData} {ds : List PyData} (h : Dq K H v d) (hs : DqAll K H vs ds) : DqAll K H (v :: vs) (d :: ds)
end
section
variable {K : PySem.W.Frag} {H H' : Hp}
theorem Same.sqT {a : Addr} {xs : List V} (e : Same H H') (h : SqT K H a xs) : SqT K H' a xs := by
  rcases h with (h | ⟨o, h⟩) | h
  · exact .inl (.inl (e _ _ h))
  · exact .inl (.inr ⟨o, e _ _ h⟩)
  · exact .inr h
mutual
theorem dp_mono (e : Same H H') : ∀ (d : PyData) (v : V), Dq K H v d → Dq K H' v d
  | _, _, .non => .non
  | _, _, .bl b => .bl b
  | _, _, .int i => .int i
  | _, _, .str x => .str x
  | _, _, .lst hs ha => .lst (e.seq hs) (dpAll_mono e _ _ ha)
  | _, _, .tup hs ha => .tup (e _ _ hs) (dpAll_mono e _ _ ha)
  | _, _, .ins hC hs ha => .ins hC (e _ _ hs) (dpAll_mono e _ _ ha)
theorem dpAll_mono (e : Same H H') : ∀ (ds : List PyData) (vs : List V), DqAll K H vs ds → DqAll K H' vs ds
  | _, _, .nil => .nil
  | _, _, .cons h1 h2 => .cons (dp_mono e _ _ h1) (dpAll_mono e _ _ h2)
end
mutual
theorem Dq.dp : ∀ (d : PyData) (v : V), d.canLay0 = true → Dq K H v d → Dp K H v d
  | _, _, _, .non => .non
  | _, _, _, .bl b => .bl b
  | _, _, _, .int i => .int i
  | _, _, _, .str x => .str x
  | _, _, g, .lst hs ha => .lst hs (DqAll.dp _ _ (by simpa [PyData.canLay0] using g) ha)
  | _, _, g, .tup hs ha => .tup (SqT.of hs) (DqAll.dp _ _ (by simpa [PyData.canLay0] using g) ha)
  | _, _, g, .ins _ _ _ => by simp [PyData.canLay0] at g
theorem DqAll.dp : ∀ (ds : List PyData) (vs : List V), PyData.canLayAll0 ds = true → DqAll K H vs ds → DpAll K H vs ds
  | _, _, _, .nil => .nil
  | d :: ds, _, g, .cons h1 h2 => by
    have g' : PyData.canLay0 d = true ∧ PyData.canLayAll0 ds = true := by simpa [PyData.canLayAll0] using g
    exact .cons (Dq.dp _ _ g'.1 h1) (DqAll.dp _ _ g'.2 h2)
end
theorem shp {d : PyData} (h : SeqAt.shaped d = true) : d.canLay0 = true := by
  unfold SeqAt.shaped at h
  exact (Bool.and_eq_true _ _ ▸ h).1
end
section
variable {K : PySem.W.Frag} {H H' : Hp} {α : Type} [Py α]
abbrev D (K : PySem.W.Frag) (H : Hp) (v : V) (x : α) : Prop := Dq K H v (toPy x)
abbrev DL (K : PySem.W.Frag) (H : Hp) (vs : List V) (xs : List α) : Prop := DqAll K H vs (xs.map Py.toPy)
theorem D.mo {v : V} {x : α} (h : D K H v x) (e : Same H H') : D K H' v x := dp_mono e _ _ h
theorem DL.mo {vs : List V} {xs : List α} (h : DL K H vs xs) (e : Same H H') : DL K H' vs xs := dpAll_mono e _ _ h
theorem d_int {v : V} {i : Int} (h : D K H v i) : v = .int i := by cases h; rfl
theorem d_bool {v : V} {i : Bool} (h : D K H v i) : v = .bl i := by cases h; rfl
theorem d_str {v : V} {i : Str} (h : D K H v i) : v = .str i := by cases h; rfl
theorem dpAll_len {vs : List V} : ∀ {ds : List PyData}, DqAll K H vs ds → vs.length = ds.length := by
  induction vs with
  | nil => intro ds h; cases h; rfl
  | cons v vs ih => intro ds h; cases h with | cons h1 h2 => simp [ih h2]
theorem DL.len {vs : List V} {xs : List α} (h : DL K H vs xs) : vs.length = xs.length := by
  have := dpAll_len h
  simpa using this
theorem dpAll_get {vs : List V} : ∀ {ds : List PyData} {i : Nat} {d : PyData}, DqAll K H vs ds → ds[i]? = some d → ∃ v, vs[i]? = some v ∧ Dq K H v d := by
  induction vs with
  | nil => intro ds i d h e; cases h; simp at e
  | cons v vs ih =>
    intro ds i d h e
    cases h with
    | cons h1 h2 =>
      cases i with
      | zero => simp at e; subst e; exact ⟨v, rfl, h1⟩
      | succ i => simpa using ih h2 (by simpa using e)
theorem DL.get {vs : List V} {xs : List α} {i : Nat} {x : α} (h : DL K H vs xs) (e : xs[i]? = some x) : ∃ v, vs[i]? = some v ∧ D K H v x :=
  dpAll_get h (by simp [e])
theorem DL.at {vs : List V} {xs : List α} {i : Int} {x : α} (h : DL K H vs xs) (e : atI xs i = some x) : ∃ v, atI vs i = some v ∧ D K H v x := by
  unfold atI at e ⊢
  rw [h.len]
  cases q : ixN xs.length i with
  | none => rw [q] at e; cases e
  | some j =>
    rw [q] at e
    exact h.get e
theorem dpAll_append {vs ws : List V} {ds es : List PyData} (h : DqAll K H vs ds) (h' : DqAll K H ws es) : DqAll K H (vs ++ ws) (ds ++ es) := by
  induction vs generalizing ds with
  | nil => cases h; exact h'
  | cons v vs ih => cases h with | cons h1 h2 => exact .cons h1 (ih h2)
theorem DL.append {vs ws : List V} {xs ys : List α} (h : DL K H vs xs) (h' : DL K H ws ys) : DL K H (vs ++ ws) (xs ++ ys) := by
  unfold DL; rw [List.map_append]; exact dpAll_append h h'
theorem DL.push {vs : List V} {xs : List α} {v : V} {x : α} (h : DL K H vs xs) (h' : D K H v x) : DL K H (vs ++ [v]) (xs ++ [x]) :=
  h.append (.cons h' .nil)
theorem dpAll_set {vs : List V} {ds : List PyData} {v : V} {d : PyData} (h : DqAll K H vs ds) (h' : Dq K H v d) (j : Nat) : DqAll K H (vs.set j v) (ds.set j d) := by
  induction vs generalizing ds j with
  | nil => cases h; exact .nil
  | cons u vs ih =>
    cases h with
    | cons h1 h2 =>
      cases j with
      | zero => exact .cons h' h2
      | succ j => exact .cons h1 (ih h2 j)
theorem DL.set {vs : List V} {xs : List α} {v : V} {x : α} (h : DL K H vs xs) (h' : D K H v x) (j : Nat) : DL K H (vs.set j v) (xs.set j x) := by
  unfold DL; rw [List.map_set]; exact dpAll_set h h' j
theorem dpAll_take {vs : List V} {ds : List PyData} (h : DqAll K H vs ds) (n : Nat) : DqAll K H (vs.take n) (ds.take n) := by
  induction n generalizing vs ds with
  | zero => exact .nil
  | succ n ih => cases h with | nil => exact .nil | cons h1 h2 => exact .cons h1 (ih h2)
theorem dpAll_drop {vs : List V} {ds : List PyData} (h : DqAll K H vs ds) (n : Nat) : DqAll K H (vs.drop n) (ds.drop n) := by
  induction n generalizing vs ds with
  | zero => exact h
  | succ n ih => cases h with | nil => exact .nil | cons h1 h2 => exact ih h2
def cut {α : Type} (xs : List α) (lo hi : Option Int) : List α := (xs.drop (HT.sIx xs.length 0 lo)).take (HT.sIx xs.length xs.length hi - HT.sIx xs.length 0 lo)
theorem DL.cut {vs : List V} {xs : List α} (h : DL K H vs xs) (lo hi : Option Int) : DL K H (cutV vs lo hi) (Z.cut xs lo hi) := by
  unfold DL cutV Z.cut
  rw [List.map_take, List.map_drop, h.len]
  exact dpAll_take (dpAll_drop h _) _
theorem dl_ints {vs : List V} : ∀ {xs : List Int}, DL K H vs xs → vs = xs.map V.int := by
  induction vs with
  | nil => intro xs h; cases xs with | nil => rfl | cons x xs => cases h
  | cons v vs ih =>
    intro xs h
    cases xs with
    | nil => cases h
    | cons x xs => cases h with | cons h1 h2 => rw [ih h2, d_int h1]; rfl
theorem dl_bools {vs : List V} : ∀ {xs : List Bool}, DL K H vs xs → vs = xs.map V.bl := by
  induction vs with
  | nil => intro xs h; cases xs with | nil => rfl | cons x xs => cases h
  | cons v vs ih =>
    intro xs h
    cases xs with
    | nil => cases h
    | cons x xs => cases h with | cons h1 h2 => rw [ih h2, d_bool h1]; rfl
theorem ints_dl : ∀ {xs : List Int}, DL K H (xs.map V.int) xs
  | [] => .nil
  | x :: xs => .cons (.int x) ints_dl
end

/-! ### the state: what stands for good (Ho), what may be written (rs) -/
/-- no tuple: tuples never change, so that none is written -/
def NotTup : HO → Prop
  | .tup _ => False
  | _ => True
structure Zs (rs : List (Addr × HO)) (H Ho : Hp) : Prop where
  le : Same Ho H
  rt : ∀ r ∈ rs, H r.1 = some r.2 ∧ Ho r.1 = none
  nd : (rs.map (·.1)).Nodup
  nt : ∀ r ∈ rs, NotTup r.2

section
variable {K : PySem.W.Frag} {H Ho H' Ho' : Hp} {rs : List (Addr × HO)} {p q : Addr} {o o' : HO}
theorem Zs.free (z : Zs rs H Ho) (h : H q = none) : Ho q = none := z.le.free h
theorem Zs.nin (z : Zs rs H Ho) (h : H q = none) : ∀ r ∈ rs, r.1 ≠ q := fun r hr e => by
  have := (z.rt r hr).1
  rw [e, h] at this
  cases this
/-- a new object that stays -/
theorem Zs.alloc (z : Zs rs H Ho) (h : H q = none) : Zs rs (upd H q o) (upd Ho q o) :=
  ⟨fun b x e => by
    by_cases hb : b = q
    · subst hb; rw [upd_same] at e ⊢; exact e
    · rw [upd_ne hb] at e ⊢; exact z.le b x e,
   fun r hr => by
    have ne := z.nin h r hr
    rw [upd_ne ne, upd_ne ne]; exact z.rt r hr, z.nd, z.nt⟩
theorem Same.new (h : Ho q = none) : Same Ho (upd Ho q o) := fun b x e => by
  rw [upd_ne (ne_of_none e h)]; exact e
/-- a new object that may be written -/
theorem Zs.root (z : Zs rs H Ho) (h : H q = none) (hn : NotTup o := by exact trivial) : Zs ((q, o) :: rs) (upd H q o) Ho :=
  ⟨fun b x e => by
    rw [upd_ne (ne_of_none (z.le b x e) h)]; exact z.le b x e,
   fun r hr => by
    rcases List.mem_cons.mp hr with e | hr
    · subst e; exact ⟨upd_same, z.free h⟩
    · rw [upd_ne (z.nin h r hr)]; exact z.rt r hr,
   List.nodup_cons.mpr ⟨fun hm => by
    obtain ⟨r, hr, e⟩ := List.mem_map.mp hm
    exact z.nin h r hr e, z.nd⟩, fun r hr => by
    rcases List.mem_cons.mp hr with e | hr
    · subst e; exact hn
    · exact z.nt r hr⟩
theorem Zs.put (z : Zs ((p, o) :: rs) H Ho) (hn : NotTup o' := by exact trivial) : Zs ((p, o') :: rs) (upd H p o') Ho :=
  ⟨fun b x e => by
    have np : b ≠ p := fun e' => by subst e'; rw [(z.rt _ List.mem_cons_self).2] at e; cases e
    rw [upd_ne np]; exact z.le b x e,
   fun r hr => by
    rcases List.mem_cons.mp hr with e | hr
    · subst e; exact ⟨upd_same, (z.rt _ List.mem_cons_self).2⟩
    · have np : r.1 ≠ p := fun e' => by
        have := (List.nodup_cons.mp z.nd).1
        exact this (List.mem_map.mpr ⟨r, hr, e'⟩)
      rw [upd_ne np]; exact z.rt r (List.mem_cons_of_mem _ hr), z.nd, fun r hr => by
    rcases List.mem_cons.mp hr with e | hr
    · subst e; exact hn
    · exact z.nt r (List.mem_cons_of_mem _ hr)⟩
theorem Zs.tail (z : Zs ((p, o) :: rs) H Ho) : Zs rs H Ho :=
  ⟨z.le, fun r hr => z.rt r (List.mem_cons_of_mem _ hr), (List.nodup_cons.mp z.nd).2, fun r hr => z.nt r (List.mem_cons_of_mem _ hr)⟩
theorem Zs.head (z : Zs ((p, o) :: rs) H Ho) : H p = some o := (z.rt _ List.mem_cons_self).1
theorem Zs.headN (z : Zs ((p, o) :: rs) H Ho) : Ho p = none := (z.rt _ List.mem_cons_self).2
/-- what may be written stands for good from now on -/
theorem Zs.freeze (z : Zs ((p, o) :: rs) H Ho) : Zs rs H (upd Ho p o) :=
  ⟨fun b x e => by
    by_cases hb : b = p
    · subst hb; rw [upd_same] at e; rw [← e]; exact z.head
    · rw [upd_ne hb] at e; exact z.le b x e,
   fun r hr => by
    have np : r.1 ≠ p := fun e' => (List.nodup_cons.mp z.nd).1 (List.mem_map.mpr ⟨r, hr, e'⟩)
    rw [upd_ne np]; exact z.rt r (List.mem_cons_of_mem _ hr), (List.nodup_cons.mp z.nd).2, fun r hr => z.nt r (List.mem_cons_of_mem _ hr)⟩
theorem Zs.perm {rs' : List (Addr × HO)} (z : Zs rs H Ho) (h : rs.Perm rs') : Zs rs' H Ho :=
  ⟨z.le, fun r hr => z.rt r (h.mem_iff.mpr hr), (h.map _).nodup_iff.mp z.nd, fun r hr => z.nt r (h.mem_iff.mpr hr)⟩
theorem perm1 {α : Type} {a b : α} {l : List α} : (a :: b :: l).Perm (b :: a :: l) := List.Perm.swap b a l
theorem perm2 {α : Type} {a b c : α} {l : List α} : (a :: b :: c :: l).Perm (c :: a :: b :: l) :=
  (List.Perm.cons a (List.Perm.swap c b l)).trans (List.Perm.swap c a (b :: l))
theorem perm2' {α : Type} {a b c : α} {l : List α} : (c :: a :: b :: l).Perm (a :: b :: c :: l) := perm2.symm
theorem perm3 {α : Type} {a b c d : α} {l : List α} : (a :: b :: c :: d :: l).Perm (d :: a :: b :: c :: l) :=
  (List.Perm.cons a perm2).trans (List.Perm.swap d a (b :: c :: l))
theorem perm3' {α : Type} {a b c d : α} {l : List α} : (d :: a :: b :: c :: l).Perm (a :: b :: c :: d :: l) := perm3.symm
theorem Zs.sw1 {a b : Addr × HO} (z : Zs (a :: b :: rs) H Ho) : Zs (b :: a :: rs) H Ho := z.perm perm1
theorem Zs.sw2 {a b c : Addr × HO} (z : Zs (a :: b :: c :: rs) H Ho) : Zs (c :: a :: b :: rs) H Ho := z.perm perm2
theorem Zs.sw2' {a b c : Addr × HO} (z : Zs (c :: a :: b :: rs) H Ho) : Zs (a :: b :: c :: rs) H Ho := z.perm perm2'
theorem Zs.sw3 {a b c d : Addr × HO} (z : Zs (a :: b :: c :: d :: rs) H Ho) : Zs (d :: a :: b :: c :: rs) H Ho := z.perm perm3
theorem Zs.sw3' {a b c d : Addr × HO} (z : Zs (d :: a :: b :: c :: rs) H Ho) : Zs (a :: b :: c :: d :: rs) H Ho := z.perm perm3'
end

/-- a list that is read -/
def LV {α : Type} [Py α] (K : PySem.W.Frag) (rs : List (Addr × HO)) (Ho : Hp) (v : V) (xs : List α) : Prop :=
  ∃ p vs, v = .ref p ∧ DL K Ho vs xs ∧ (SqL K Ho p vs ∨ (p, HO.lst vs) ∈ rs)
section
variable {K : PySem.W.Frag} {H Ho H' Ho' : Hp} {rs rs' : List (Addr × HO)} {α : Type} [Py α] {v : V} {xs : List α}
theorem LV.mo (h : LV K rs Ho v xs) (e : Same Ho Ho') : LV K rs Ho' v xs := by
  obtain ⟨p, vs, rfl, d, s⟩ := h
  exact ⟨p, vs, rfl, DL.mo d e, s.imp (fun s => e.seq s) id⟩
theorem LV.sub (h : LV K rs Ho v xs) (e : ∀ r ∈ rs, r ∈ rs') : LV K rs' Ho v xs := by
  obtain ⟨p, vs, rfl, d, s⟩ := h
  exact ⟨p, vs, rfl, d, s.imp id (e _)⟩
theorem LV.cons {r : Addr × HO} (h : LV K rs Ho v xs) : LV K (r :: rs) Ho v xs := h.sub fun _ m => List.mem_cons_of_mem _ m
theorem LV.of (h : D K Ho v xs) : LV K rs Ho v xs := by
  cases h with
  | lst hs ha => exact ⟨_, _, rfl, ha, .inl hs⟩
theorem LV.rd (h : LV K rs Ho v xs) (z : Zs rs H Ho) : ∃ p vs, v = .ref p ∧ DL K Ho vs xs ∧ SqL K H p vs := by
  obtain ⟨p, vs, rfl, d, s⟩ := h
  refine ⟨p, vs, rfl, d, ?_⟩
  rcases s with s | s
  · exact z.le.seq s
  · exact SqL.of (z.rt _ s).1
theorem LV.dp (h : LV K rs Ho v xs) (z : Zs rs H Ho) : D K H v xs := by
  obtain ⟨p, vs, rfl, d, s⟩ := h.rd z
  exact .lst s (DL.mo d z.le)
theorem lv_root {p : Addr} {vs : List V} (d : DL K Ho vs xs) (m : (p, HO.lst vs) ∈ rs) : LV K rs Ho (.ref p) xs := ⟨p, vs, rfl, d, .inr m⟩
end


/-! ### more rules of the machine -/
section
variable {X : Cx}
def rCatS (K : PySem.W.Frag) : R2 := fun x y H Q => ∃ l b xs zs, x = .ref l ∧ y = .ref b ∧ SqL K H l xs ∧ SqL K H b zs ∧ xs.length + zs.length ≤ sizeLine ∧ ∀ p, H p = none → Q (.ref p) (upd H p (.lst (xs ++ zs)))
theorem op_catS : OpR X (binaryOp .Add) (rCatS X.K) := by
  intro pins s σ H x y v u Q I rx ry h
  obtain ⟨l, b, xs, zs, rfl, rfl, hH, hB, hz, q⟩ := h
  cases rx
  cases ry
  obtain ⟨its, r, pl, _⟩ := I.list hH
  obtain ⟨its2, r2, pl2, _⟩ := I.list hB
  have hl := r.length
  have hl2 := r2.length
  obtain ⟨⟨cls, dd, data, sl⟩, ho, hc, n, hd⟩ := pl.isList
  obtain ⟨⟨cls2, dd2, data2, sl2⟩, ho2, hc2, n2, hd2⟩ := pl2.isList
  simp only at hc hd hc2 hd2
  subst hc hd hc2 hd2
  have ea : its.toArray ++ its2.toArray = (its ++ its2).toArray := by simp
  refine concat_meets ⟨_, ho, rfl⟩ ⟨_, ho2, rfl⟩ noFill_list_add seq_list_add PySem.F.slot_list_add PySem.F.entry_list_add (PySem.F.args_list_add_2 _ _) (list_addW l b its.toArray its2.toArray n n2 dd dd2 sl sl2 (by simp only [List.size_toArray]; omega)) ⟨ho, ho2, ?_⟩
  rw [ea]
  exact ⟨.ref _, _, I.lnew (t' := s.toks) (r.append r2) (by rw [List.length_append]; omega), rfl, q _ I.fresh⟩
/-- xs[i] as the old value of xs[i] op= e -/
theorem get_list : PGet X (rIxL X.K) := by
  intro pins s σ H o i ov iv Q I ro ri h
  obtain ⟨p, xs, i, z, rfl, rfl, hq, he, q⟩ := h
  cases ro
  obtain ⟨t, rfl⟩ := ri
  obtain ⟨its, r, pl, hz⟩ := I.list hq
  obtain ⟨j, h1, h2, h3, h4, h5⟩ := atI_get he
  obtain ⟨w, ew, rw'⟩ := r.get h2
  have hl := r.length
  have hn := line63
  have fin : EP X pins σ Q w s := ⟨z, H, I, rw', q⟩
  by_cases h0 : 0 ≤ i
  · have hj : i.toNat = j := by
      rw [seqIndex_of h0 h5] at h1
      exact Option.some.inj h1
    exact wpAny_getItem_list pl.isList h0 (by omega) (by rw [hj]; simpa using ew) fin
  · have hj : (i + (its.toArray.size : Int)).toNat = j := by
      rw [seqIndex_neg (by omega) h4] at h1
      rw [List.size_toArray, ← hl]
      exact Option.some.inj h1
    exact wpAny_getItem_list_neg pl.isList (by omega) (by rw [List.size_toArray] <;> omega) (by omega) (by rw [hj]; simpa using ew) fin
end
end Z

/-! # Y1: readings step by step -/
namespace Z
open PySem PySem.Spec PyProof.Rows L2

/-! ### roots -/
theorem Zs.putI {rs : List (Addr × HO)} {H Ho : Hp} {n : Nat} {p : Addr} {o o' : HO} (z : Zs rs H Ho) (h : rs[n]? = some (p, o)) (hn : NotTup o' := by exact trivial) : Zs (rs.set n (p, o')) (upd H p o') Ho := by
  have hp := z.rt (p, o) (List.mem_of_getElem? h)
  have idx : ∀ m r, rs[m]? = some r → r.1 = p → m = n := fun m r hm e => by
    have h1 : (rs.map (·.1))[m]? = some p := by rw [List.getElem?_map, hm]; exact congrArg some e
    have h2 : (rs.map (·.1))[n]? = some p := by rw [List.getElem?_map, h]; rfl
    exact nd_ix z.nd h1 h2
  refine ⟨fun b x e => ?_, fun r hr => ?_, ?_, fun r hr => ?_⟩
  · have np : b ≠ p := fun e' => by subst e'; rw [hp.2] at e; cases e
    rw [upd_ne np]; exact z.le b x e
  · obtain ⟨m, hm⟩ := List.mem_iff_getElem?.mp hr
    rw [List.getElem?_set] at hm
    by_cases c : n = m
    · rw [if_pos c] at hm
      split at hm
      · cases hm; exact ⟨upd_same, hp.2⟩
      · cases hm
    · rw [if_neg c] at hm
      have np : r.1 ≠ p := fun e => c (idx m r hm e).symm
      rw [upd_ne np]; exact z.rt r (List.mem_of_getElem? hm)
  · have e : (rs.set n (p, o')).map (·.1) = rs.map (·.1) := by
      rw [List.map_set]
      apply List.ext_getElem?
      intro m
      rw [List.getElem?_set]
      split
      · rename_i c
        subst c
        rw [List.getElem?_map, h]
        have hl : n < (rs.map (·.1)).length := by rw [List.length_map]; exact (List.getElem?_eq_some_iff.mp h).1
        rw [if_pos hl]; rfl
      · rfl
    rw [e]; exact z.nd
  · rcases List.mem_or_eq_of_mem_set hr with q | q
    · exact z.nt r q
    · subst q; exact hn
theorem Zs.sub {rs rs' : List (Addr × HO)} {H Ho : Hp} (z : Zs rs H Ho) (h : rs'.Sublist rs) : Zs rs' H Ho :=
  ⟨z.le, fun r hr => z.rt r (h.subset hr), (h.map _).nodup z.nd, fun r hr => z.nt r (h.subset hr)⟩
/-- some of the roots, in any order -/
theorem Zs.re {rs rs' : List (Addr × HO)} {H Ho : Hp} (l amb : List (Addr × HO)) (is : List Nat) (z : Zs rs H Ho) (h1 : rs = l ++ amb := by rfl) (h2 : rs' = (is.filterMap fun i => l[i]?) ++ amb := by rfl) (hn : is.Nodup := by decide) : Zs rs' H Ho := by
  subst h1 h2
  have sub : ∀ r ∈ (is.filterMap fun i => l[i]?), r ∈ l := fun r hr => by
    obtain ⟨i, _, e⟩ := List.mem_filterMap.mp hr
    exact List.mem_of_getElem? e
  have sub2 : ∀ r ∈ (is.filterMap fun i => l[i]?) ++ amb, r ∈ l ++ amb := fun r hr => by
    rcases List.mem_append.mp hr with h | h
    · exact List.mem_append.mpr (.inl (sub r h))
    · exact List.mem_append.mpr (.inr h)
  refine ⟨z.le, fun r hr => z.rt r (sub2 r hr), ?_, fun r hr => z.nt r (sub2 r hr)⟩
  · have nd := z.nd
    rw [List.map_append, List.nodup_append] at nd ⊢
    refine ⟨?_, nd.2.1, fun a ha b hb => ?_⟩
    · rw [List.map_filterMap]
      refine List.Pairwise.filterMap _ (fun i j hij a ha b hb e => ?_) hn
      subst e
      simp only [Option.map_eq_some_iff] at ha hb
      obtain ⟨r, e1, e2⟩ := ha
      obtain ⟨q, e3, e4⟩ := hb
      refine hij (nd_ix nd.1 (show (l.map (·.1))[i]? = some a from ?_) (show (l.map (·.1))[j]? = some a from ?_))
      · rw [List.getElem?_map, e1]; exact congrArg some e2
      · rw [List.getElem?_map, e3]; exact congrArg some e4
    · obtain ⟨r, hr, rfl⟩ := List.mem_map.mp ha
      exact nd.2.2 _ (List.mem_map.mpr ⟨r, sub r hr, rfl⟩) b hb
theorem rt_mem {rs : List (Addr × HO)} {n : Nat} {a : Addr × HO} (h : rs[n]? = some a) : a ∈ rs := List.mem_of_getElem? h
def subN {rs : List (Addr × HO)} (n : Nat) {xs : List (Addr × HO)} (h : xs.drop n = rs) : ∀ r ∈ rs, r ∈ xs := fun r m => List.mem_of_mem_drop (i := n) (h ▸ m)

section
variable {K : PySem.W.Frag} {rs r0 : List (Addr × HO)} {σ : L2.St} {H Ho : Hp} {ta tb tc te : TE} {tt tu : TT} {ts : TA} {Q : VK} {QB : Bool → Hp → Prop} {u t1 t2 : TS} {D : Ends} {v w : V} {i : Nat} {α β γ : Type} [Py α] [Py β] {Φ : γ → Prop} {p : Addr}
theorem frz {ws : List V} {xs : List α} (z : Zs ((p, .lst ws) :: rs) H Ho) (d : DL K Ho ws xs) : ∃ Ho', Same Ho Ho' ∧ Zs rs H Ho' ∧ Z.D K Ho' (.ref p) xs := by
  have e : Same Ho (upd Ho p (.lst ws)) := Same.new z.headN
  exact ⟨_, e, z.freeze, .lst (SqL.of upd_same) (DL.mo d e)⟩
/-- a new list that stands for good at once -/
theorem frzK {Q' : Addr → Hp → Prop} {H' : Hp} {xs : List α} (k : ∀ p Ho', Same Ho Ho' → Zs rs H' Ho' → Z.D K Ho' (.ref p) xs → Q' p H') : ∀ p ws, Zs ((p, .lst ws) :: rs) H' Ho → DL K Ho ws xs → Q' p H' := fun p ws z d => by
  obtain ⟨Ho', e, z', d'⟩ := frz z d
  exact k p Ho' e z' d'
/-! ### expressions -/
theorem y_var (h : σ[i]? = some (some v)) (k : Q v H) : tVar i σ H Q := ⟨v, h, k⟩
theorem y_c (k : Q v H) : tC v σ H Q := k
theorem y_op {r : R2} (k : ta σ H fun x H1 => tb σ H1 fun y H2 => r x y H2 Q) : tOp r ta tb σ H Q := k
theorem y_un {r : V → Hp → VK → Prop} (k : ta σ H fun x H1 => r x H1 Q) : tUn r ta σ H Q := k
theorem y_test (k : te σ H fun x H1 => ∃ c, x = .bl c ∧ QB c H1) : tTest te σ H QB := k
theorem y_tB (k : te σ H fun x H1 => ∃ c, x = .bl c ∧ QB c H1) : tB te σ H QB := k
theorem y_bl {b : Bool} (k : QB b H) : ∃ c, V.bl b = .bl c ∧ QB c H := ⟨b, rfl, k⟩
theorem y_not (k : tt σ H fun c H1 => QB (!c) H1) : tNot tt σ H QB := k
theorem y_notV (k : te σ H fun x H1 => ∃ c, x = .bl c ∧ Q (.bl (!c)) H1) : tNotV te σ H Q := k
theorem y_andV (k : ta σ H fun x H1 => ∃ c, x = .bl c ∧ if c = true then tb σ H1 Q else Q (.bl false) H1) : tAndV ta tb σ H Q := k
theorem y_orV (k : ta σ H fun x H1 => ∃ c, x = .bl c ∧ if c = true then Q (.bl true) H1 else tb σ H1 Q) : tOrV ta tb σ H Q := k
theorem y_and (k : tt σ H fun c H1 => if c = true then tu σ H1 QB else QB false H1) : tAnd tt tu σ H QB := k
theorem y_or (k : tt σ H fun c H1 => if c = true then QB true H1 else tu σ H1 QB) : tOr tt tu σ H QB := k
theorem y_if (k : tt σ H fun c H1 => if c = true then ta σ H1 Q else tb σ H1 Q) : tIf tt ta tb σ H Q := k
theorem y_chain {r r' : R2} (k : ta σ H fun x H1 => tb σ H1 fun y H2 => r x y H2 fun z H3 => ∃ c, z = .bl c ∧ (if c = true then tc σ H3 fun w' H4 => r' y w' H4 Q else Q (.bl false) H3)) : tChain r r' ta tb tc σ H Q := k
theorem y_cb {r : List V → Hp → VK → Prop} (k : ts σ H fun vs H1 => r vs H1 Q) : tCB r ts σ H Q := k
theorem y_nil {QL : List V → Hp → Prop} (k : QL [] H) : tNil σ H QL := k
theorem y_cons {QL : List V → Hp → Prop} (k : ta σ H fun x H1 => ts σ H1 fun xs H2 => QL (x :: xs) H2) : tCons ta ts σ H QL := k
theorem y_lst (k : ts σ H fun xs H1 => xs.length ≤ sizeLine ∧ ∀ p, H1 p = none → Q (.ref p) (upd H1 p (.lst xs))) : tLst ts σ H Q := k
theorem y_tup (k : ts σ H fun xs H1 => xs.length ≤ sizeLine ∧ ∀ p, H1 p = none → Q (.ref p) (upd H1 p (.tup xs))) : tTup ts σ H Q := k
theorem y_sl {r : V → Option Int → Option Int → Hp → VK → Prop} {tl th : TO} (k : te σ H fun x H1 => tl σ H1 fun l H2 => th σ H2 fun u H3 => r x l u H3 Q) : tSl r te tl th σ H Q := k
theorem y_noPart {QO : Option Int → Hp → Prop} (k : QO none H) : tNoPart σ H QO := k
theorem y_part {QO : Option Int → Hp → Prop} (k : te σ H fun x H1 => ∃ i, x = .int i ∧ QO (some i) H1) : tPart te σ H QO := k
theorem y_int {QO : Int → Hp → Prop} {i : Int} (k : QO i H) : ∃ j, V.int i = .int j ∧ QO j H := ⟨i, rfl, k⟩
theorem y_call {sp : Sp} {E : XK} (k : ts σ H fun vs H1 => sp (vs ++ []) H1 Q E) : tCall sp [] E ts σ H Q := k
theorem y_bm {T : String} {r : V → List V → Hp → VK → Prop} (k : te σ H fun x H1 => tyV K T x H1 ∧ ts σ H1 fun xs H2 => r x xs H2 Q) : tBM K T r te ts σ H Q := k
theorem y_bm0 {T : String} {r : V → List V → Hp → VK → Prop} (k : te σ H fun x H1 => tyV K T x H1 ∧ r x [] H1 Q) : tBM0 K T r te σ H Q := k
/-! ### values -/
theorem y_i0 {g : Int → Int → V} {a b : Int} (k : Q (g a b) H) : rI0 g (.int a) (.int b) H Q := ⟨a, b, rfl, rfl, k⟩
theorem y_ig {C : Int → Int → Prop} {g : Int → Int → V} {a b : Int} (c : C a b) (k : Q (g a b) H) : rI C g (.int a) (.int b) H Q := ⟨a, b, rfl, rfl, c, k⟩
theorem y_neg {a : Int} (k : Q (.int (-a)) H) : rU (fun i => .int (-i)) (.int a) H Q := ⟨a, rfl, k⟩
theorem y_eqi {a b : Int} (k : Q (.bl (decide (a = b))) H) : rEq (.int a) (.int b) H Q := ⟨rfl, by
  have e : decide (V.int a = V.int b) = decide (a = b) := by simp
  rw [e]; exact k⟩
theorem y_nei {a b : Int} (k : Q (.bl (!decide (a = b))) H) : rNe (.int a) (.int b) H Q := ⟨rfl, by
  have e : decide (V.int a = V.int b) = decide (a = b) := by simp
  rw [e]; exact k⟩
theorem y_eqb {a b : Bool} (k : Q (.bl (decide (a = b))) H) : rEq (.bl a) (.bl b) H Q := ⟨rfl, by
  have e : decide (V.bl a = V.bl b) = decide (a = b) := by simp
  rw [e]; exact k⟩
theorem y_neb {a b : Bool} (k : Q (.bl (!decide (a = b))) H) : rNe (.bl a) (.bl b) H Q := ⟨rfl, by
  have e : decide (V.bl a = V.bl b) = decide (a = b) := by simp
  rw [e]; exact k⟩
theorem y_eqs {a b : Str} (k : Q (.bl (decide (a = b))) H) : rEq (.str a) (.str b) H Q := ⟨rfl, by
  have e : decide (V.str a = V.str b) = decide (a = b) := by simp
  rw [e]; exact k⟩
theorem y_nes {a b : Str} (k : Q (.bl (!decide (a = b))) H) : rNe (.str a) (.str b) H Q := ⟨rfl, by
  have e : decide (V.str a = V.str b) = decide (a = b) := by simp
  rw [e]; exact k⟩
def eqD {β γ : Type} [Py β] [Py γ] (x : β) (y : γ) : Bool := PyData.eqv (toPy x) (toPy y)
def okD {β : Type} [Py β] (x : β) : Prop := SeqAt.shaped (toPy x) = true
theorem y_eqD {x : α} {y : β} (d1 : Z.D K H v x) (d2 : Z.D K H w y) (hg : okD x ∧ okD y) (k : Q (.bl (eqD x y)) H) : rEqD K v w H Q := ⟨_, _, Dq.dp _ _ (shp hg.1) d1, Dq.dp _ _ (shp hg.2) d2, hg.1, hg.2, k⟩
theorem y_neD {x : α} {y : β} (d1 : Z.D K H v x) (d2 : Z.D K H w y) (hg : okD x ∧ okD y) (k : Q (.bl (!eqD x y)) H) : rNeD K v w H Q := ⟨_, _, Dq.dp _ _ (shp hg.1) d1, Dq.dp _ _ (shp hg.2) d2, hg.1, hg.2, k⟩
def inD (x : α) (ys : List β) : Bool := ys.any fun y => eqD y x
theorem any_map {x : α} : ∀ {ys : List β}, ((ys.map Py.toPy).any fun z => PyData.eqv z (toPy x)) = inD x ys
  | [] => rfl
  | y :: ys => by
    show (_ || _) = (_ || _)
    rw [any_map]; rfl
theorem y_inD {x : α} {ys : List β} (d1 : Z.D K H v x) (d2 : Z.D K H w ys) (hg : okD x ∧ okD ys) (k : Q (.bl (inD x ys)) H) : rInD K v w H Q := ⟨_, _, Dq.dp _ _ (shp hg.1) d1, Dq.dp _ _ (shp hg.2) d2, hg.1, hg.2, by
  have e := any_map (x := x) (ys := ys)
  exact e ▸ k⟩
theorem y_notInD {x : α} {ys : List β} (d1 : Z.D K H v x) (d2 : Z.D K H w ys) (hg : okD x ∧ okD ys) (k : Q (.bl (!inD x ys)) H) : rNotInD K v w H Q := ⟨_, _, Dq.dp _ _ (shp hg.1) d1, Dq.dp _ _ (shp hg.2) d2, hg.1, hg.2, by
  have e := any_map (x := x) (ys := ys)
  exact e ▸ k⟩
theorem dec_non {x : Option β} (d : Z.D K H v x) (hg : ∀ b : β, x = some b → toPy b ≠ .none) : decide (v = .non) = x.isNone := by
  cases x with
  | none => cases d; rfl
  | some b =>
    rw [decide_eq_false]
    · rfl
    · intro ev
      subst ev
      have d3 : Dq K H V.non (toPy b) := d
      have nb := hg b rfl
      generalize toPy b = pb at d3 nb
      cases d3
      exact nb rfl
theorem y_isN {x : Option β} (d : Z.D K H v x) (hg : ∀ b : β, x = some b → toPy b ≠ .none) (k : Q (.bl x.isNone) H) : (fun x y H Q => y = .non ∧ Q (.bl (decide (x = .non))) H : R2) v .non H Q := ⟨rfl, by rw [dec_non d hg]; exact k⟩
theorem y_notN {x : Option β} (d : Z.D K H v x) (hg : ∀ b : β, x = some b → toPy b ≠ .none) (k : Q (.bl x.isSome) H) : (fun x y H Q => y = .non ∧ Q (.bl (!decide (x = .non))) H : R2) v .non H Q := ⟨rfl, by
  rw [dec_non d hg, show (!x.isNone) = x.isSome by cases x <;> rfl]; exact k⟩
/-! lists read -/
theorem y_ixL {xs : List α} {i : Int} {f : α → W γ} (d : LV K rs Ho v xs) (z : Zs rs H Ho) (hw : (W.bind (W.opt (atI xs i)) f).run Φ) (k : ∀ t w, Z.D K Ho w t → (f t).run Φ → Q w H) : rIxL K v (.int i) H Q := by
  obtain ⟨p, vs, rfl, d, s⟩ := d.rd z
  obtain ⟨a, ea, hw⟩ := hw
  obtain ⟨w, ew, dw⟩ := DL.at d ea
  exact ⟨p, vs, i, w, rfl, rfl, s, ew, k a w dw hw⟩
theorem y_ixT {x : α} {y : β} {i : Int} (d : Z.D K Ho v x) (z : Zs rs H Ho) (hj : ∃ ds, toPy x = .tuple ds ∧ atI ds i = some (toPy y)) (k : ∀ w, Z.D K Ho w y → Q w H) : rIxT K v (.int i) H Q := by
  obtain ⟨ds, e1, e3⟩ := hj
  have d : Dq K Ho v (toPy x) := d
  rw [e1] at d
  cases d with
  | tup hs ha =>
    have hl := dpAll_len ha
    unfold atI at e3
    rw [← hl] at e3
    cases q : ixN _ i with
    | none => rw [q] at e3; cases e3
    | some j =>
      rw [q] at e3
      obtain ⟨w, ew, dw⟩ := dpAll_get ha e3
      refine ⟨_, _, _, w, rfl, rfl, SqT.of (z.le _ _ hs), ?_, k w dw⟩
      unfold atI
      rw [q]
      exact ew
theorem y_ixTp {xs : Tp α} {i : Int} {f : α → W γ} (d : Z.D K Ho v xs) (z : Zs rs H Ho) (hw : (W.bind (W.opt (atI xs.l i)) f).run Φ) (k : ∀ t w, Z.D K Ho w t → (f t).run Φ → Q w H) : rIxT K v (.int i) H Q := by
  obtain ⟨a, ea, hw⟩ := hw
  cases d with
  | tup hs ha =>
    obtain ⟨w, ew, dw⟩ := DL.at (K := K) (H := Ho) ha ea
    exact ⟨_, _, i, w, rfl, rfl, SqT.of (z.le _ _ hs), ew, k a w dw hw⟩
theorem y_slL {xs : List α} {l h : Option Int} (d : LV K rs Ho v xs) (z : Zs rs H Ho) (k : ∀ H' p ws, Zs ((p, .lst ws) :: rs) H' Ho → DL K Ho ws (Z.cut xs l h) → Q (.ref p) H') : rSlL K v l h H Q := by
  obtain ⟨p, vs, rfl, d, s⟩ := d.rd z
  exact ⟨p, vs, rfl, s, fun q hq => k _ q _ (z.root hq) (DL.cut d l h)⟩
theorem y_cat {xs ys : List α} (d1 : LV K rs Ho v xs) (d2 : LV K rs Ho w ys) (z : Zs rs H Ho) (hg : xs.length + ys.length ≤ sizeLine) (k : ∀ H' p ws, Zs ((p, .lst ws) :: rs) H' Ho → DL K Ho ws (xs ++ ys) → Q (.ref p) H') : rCatS K v w H Q := by
  obtain ⟨p, vs, rfl, d, s⟩ := LV.rd d1 z
  obtain ⟨p', vs', rfl, d', s'⟩ := LV.rd d2 z
  exact ⟨p, p', vs, vs', rfl, rfl, s, s', by rw [d.len, d'.len]; exact hg, fun q hq => k _ _ _ (z.root hq) (d.append d')⟩
theorem rep_dl {vs : List V} {xs : List α} (d : DL K Ho vs xs) (n : Nat) : DL K Ho (List.replicate n vs).flatten (List.replicate n xs).flatten := by
  induction n with
  | zero => exact .nil
  | succ n ih =>
    rw [List.replicate_succ, List.flatten_cons, List.replicate_succ, List.flatten_cons]
    exact d.append ih
def repG {α : Type} (xs : List α) (k : Int) : Prop := -(2 ^ 63) ≤ k ∧ k < 2 ^ 63 ∧ xs.length * k.toNat ≤ sizeLine
def repL {α : Type} (xs : List α) (k : Int) : List α := (List.replicate k.toNat xs).flatten
/-- the new list xs, repeated -/
theorem y_rep {ws : List V} {xs : List α} {n : Int} (z : Zs ((p, .lst ws) :: rs) H Ho) (d : DL K Ho ws xs) (hg : repG xs n) (k : ∀ H' q ws', Zs ((q, .lst ws') :: rs) H' Ho → DL K Ho ws' (repL xs n) → Q (.ref q) H') : rRep (.ref p) (.int n) H Q :=
  ⟨p, n, ws, rfl, rfl, z.head, hg.1, hg.2.1, by rw [DL.len d]; exact hg.2.2, fun q hq => k _ q _ (z.root hq).sw1.tail (rep_dl d _)⟩
theorem y_lstk {vs : List V} {xs : List α} (z : Zs rs H Ho) (d : DL K Ho vs xs) (hl : vs.length ≤ sizeLine) (k : ∀ H' p ws, Zs ((p, .lst ws) :: rs) H' Ho → DL K Ho ws xs → Q (.ref p) H') : vs.length ≤ sizeLine ∧ ∀ p, H p = none → Q (.ref p) (upd H p (.lst vs)) :=
  ⟨hl, fun p hp => k _ p _ (z.root hp) d⟩
theorem y_tupk {vs : List V} {x : α} (z : Zs rs H Ho) (hl : vs.length ≤ sizeLine) (ds : List PyData) (hx : toPy x = .tuple ds) (d : DqAll K Ho vs ds) (k : ∀ p H' Ho', Same Ho Ho' → Zs rs H' Ho' → Z.D K Ho' (.ref p) x → Q (.ref p) H') :
    vs.length ≤ sizeLine ∧ ∀ p, H p = none → Q (.ref p) (upd H p (.tup vs)) :=
  ⟨hl, fun p hp => by
    have e3 : Same Ho (upd Ho p (.tup vs)) := Same.new (z.free hp)
    refine k p _ _ e3 (z.alloc hp) ?_
    show Dq K _ _ (toPy x)
    rw [hx]
    exact .tup upd_same (dpAll_mono e3 _ _ d)⟩
/-! ### statements -/
theorem y_asg (σ' : V → L2.St) (hσ : ∀ v, σ.set i (some v) = σ' v) (k : te σ H fun v H1 => u D (σ' v) H1) : tSeq (tAsg te (gName i)) u D σ H := by
  have e : (fun v H1 => u D (σ' v) H1) = fun v H1 => u D (σ.set i (some v)) H1 := by funext v H1; rw [hσ]
  rw [e] at k
  exact k
theorem y_asgG {g : TG} (k : te σ H fun v H1 => g v σ H1 fun σ' H' => u D σ' H') : tSeq (tAsg te g) u D σ H := k
theorem y_drop (k : te σ H fun _ H1 => u D σ H1) : tSeq (tDrop te) u D σ H := k
theorem y_ret (k : te σ H D.rt) : tSeq (tRet te) u D σ H := k
theorem y_retN (k : D.rt .non H) : tSeq tRetN u D σ H := k
theorem y_doc (k : u D σ H) : tSeq tNext u D σ H := k
theorem y_ifS (k : tt σ H fun b H1 => if b = true then t1 { D with nx := u D } σ H1 else t2 { D with nx := u D } σ H1) : tSeq (tIfS tt t1 t2) u D σ H := k
theorem y_cases {A B : W γ} {b : Bool} {X Y : Prop} (hw : (W.ite b A B).run Φ) (h1 : b = true → A.run Φ → X) (h2 : b = false → B.run Φ → Y) : if b = true then X else Y := by
  cases b with
  | true => exact iteT (h1 rfl (hw.1 rfl))
  | false => exact iteF (h2 rfl (hw.2 rfl))
theorem y_nx (k : D.nx σ H) : tNext D σ H := k
theorem run_ret {β : Type} {a : β} {Φ : β → Prop} (h : (W.ret a).run Φ) : Φ a := h
/-- a value gets a name -/
theorem y_let {e : β} {f : β → W γ} {G : Prop} (hw : (W.bind (W.ret e) f).run Φ) (P : β → Prop) (hp : P e) (k : ∀ x, P x → (f x).run Φ → G) : G := k e hp hw
theorem y_letI {e : Int} {f : Int → W γ} {G : V → Hp → Prop} (hw : (W.bind (W.ret e) f).run Φ) (k : ∀ x, (f x).run Φ → G (.int x) H) : G (.int e) H := k e hw
theorem y_letB {e : Bool} {f : Bool → W γ} {G : V → Hp → Prop} (hw : (W.bind (W.ret e) f).run Φ) (k : ∀ x, (f x).run Φ → G (.bl x) H) : G (.bl e) H := k e hw
theorem y_letS {e : Str} {f : Str → W γ} {G : V → Hp → Prop} (hw : (W.bind (W.ret e) f).run Φ) (k : ∀ x, (f x).run Φ → G (.str x) H) : G (.str e) H := k e hw
def apd {α : Type} (xs : List α) (x : α) : W (List α) := W.guard (xs.length < sizeLine) (W.ret (xs ++ [x]))
def exd {α : Type} (xs ys : List α) : W (List α) := W.guard (xs.length + ys.length ≤ sizeLine) (W.ret (xs ++ ys))
def sti {α : Type} (xs : List α) (i : Int) (y : α) : W (List α) := W.bind (W.opt (ixN xs.length i)) fun j => W.ret (xs.set j y)
theorem y_tyL {R : Prop} {n : Nat} {ws : List V} (z : Zs rs H Ho) (hn : rs[n]? = some (p, .lst ws)) (k : R) : tyV K "list" (.ref p) H ∧ R := ⟨.inl ⟨rfl, _, SqL.of (z.rt _ (List.mem_of_getElem? hn)).1⟩, k⟩
theorem y_app {n : Nat} {ws : List V} {xs : List α} {x : α} {f : List α → W γ} (z : Zs rs H Ho) (hn : rs[n]? = some (p, .lst ws)) (d : DL K Ho ws xs) (dx : Z.D K Ho w x) (hw : (W.bind (apd xs x) f).run Φ) (k : ∀ xs' ws' H', Zs (rs.set n (p, .lst ws')) H' Ho → DL K Ho ws' xs' → (f xs').run Φ → Q .non H') : rAppend (.ref p) [w] H Q := by
  have hp := z.rt _ (List.mem_of_getElem? hn)
  exact ⟨p, ws, w, rfl, rfl, hp.1, by rw [DL.len d]; exact hw.1, k _ _ _ (z.putI hn) (d.push dx) hw.2⟩
theorem y_ext {n m : Nat} {ws us : List V} {q : Addr} {xs ys : List α} {f : List α → W γ} (z : Zs rs H Ho) (hn : rs[n]? = some (p, .lst ws)) (hm : rs[m]? = some (q, .lst us)) (d : DL K Ho ws xs) (dx : DL K Ho us ys) (hw : (W.bind (exd xs ys) f).run Φ) (k : ∀ xs' ws' H', Zs (rs.set n (p, .lst ws')) H' Ho → DL K Ho ws' xs' → (f xs').run Φ → Q .non H') : rExtend (.ref p) [.ref q] H Q := by
  have hp := z.rt _ (List.mem_of_getElem? hn)
  have hq := z.rt _ (List.mem_of_getElem? hm)
  exact ⟨p, q, ws, us, rfl, rfl, hp.1, hq.1, by rw [DL.len d, DL.len dx]; exact hw.1, k _ _ _ (z.putI hn) (d.append dx) hw.2⟩
/-- xs.pop() -/
def popL {α : Type} (xs : List α) : W α := W.opt xs[xs.length - 1]?
theorem dpAll_dropLast {vs : List V} {ds : List PyData} (h : DqAll K H vs ds) : DqAll K H vs.dropLast ds.dropLast := by
  have hl := dpAll_len h
  rw [List.dropLast_eq_take, List.dropLast_eq_take, hl]
  exact dpAll_take h _
theorem y_pop {n : Nat} {ws : List V} {xs : List α} {f : α → W γ} (z : Zs rs H Ho) (hn : rs[n]? = some (p, .lst ws)) (d : DL K Ho ws xs) (hw : (W.bind (popL xs) f).run Φ) (k : ∀ t w ws' H', Zs (rs.set n (p, .lst ws')) H' Ho → DL K Ho ws' xs.dropLast → Z.D K Ho w t → (f t).run Φ → Q w H') : rPop (.ref p) [] H Q := by
  have hp := z.rt _ (List.mem_of_getElem? hn)
  obtain ⟨t, et, hw⟩ := hw
  rw [← DL.len d] at et
  obtain ⟨w, ew, dw⟩ := DL.get d et
  refine ⟨p, ws, w, rfl, rfl, hp.1, ew, k t w _ _ (z.putI hn) ?_ dw hw⟩
  show DqAll _ _ _ (xs.dropLast.map Py.toPy)
  rw [List.map_dropLast]
  exact dpAll_dropLast d
/-- xs.pop(i) -/
def popI {α : Type} (xs : List α) (i : Int) : W (α × List α) := W.guard (-(2 ^ 63) ≤ i ∧ i < 2 ^ 63) (W.bind (W.opt (ixN xs.length i)) fun j => W.bind (W.opt xs[j]?) fun x => W.ret (x, xs.eraseIdx j))
theorem ixN_seq {n : Nat} {i : Int} {j : Nat} (h : ixN n i = some j) : seqIndex? i n = some j := by
  unfold ixN at h
  by_cases c : 0 ≤ i
  · rw [if_pos c] at h
    split at h
    · rename_i hl
      have e : i.toNat = j := Option.some.inj h
      rw [seqIndex_of c (by omega)]
      exact h
    · cases h
  · rw [if_neg c] at h
    split at h
    · rename_i hl
      rw [seqIndex_neg (by omega) (by omega)]
      rw [← h]
    · cases h
theorem dpAll_erase {vs : List V} {ds : List PyData} (h : DqAll K H vs ds) (j : Nat) : DqAll K H (vs.eraseIdx j) (ds.eraseIdx j) := by
  induction vs generalizing ds j with
  | nil => cases h; exact .nil
  | cons u vs ih =>
    cases h with
    | cons h1 h2 =>
      cases j with
      | zero => exact h2
      | succ j => exact .cons h1 (ih h2 j)
theorem map_erase {α β : Type} (f : α → β) : ∀ (xs : List α) (j : Nat), (xs.eraseIdx j).map f = (xs.map f).eraseIdx j
  | [], _ => rfl
  | x :: xs, 0 => rfl
  | x :: xs, j + 1 => by simp [map_erase f xs j]
theorem y_popI {n : Nat} {ws : List V} {xs : List α} {i : Int} {f : α × List α → W γ} (z : Zs rs H Ho) (hn : rs[n]? = some (p, .lst ws)) (d : DL K Ho ws xs) (hw : (W.bind (popI xs i) f).run Φ) (k : ∀ t xs' w ws' H', Zs (rs.set n (p, .lst ws')) H' Ho → DL K Ho ws' xs' → Z.D K Ho w t → (f (t, xs')).run Φ → Q w H') : rPopAt (.ref p) [.int i] H Q := by
  have hp := z.rt _ (List.mem_of_getElem? hn)
  obtain ⟨⟨g1, g2⟩, j, ej, t, et, hw⟩ := hw
  obtain ⟨w, ew, dw⟩ := DL.get d et
  refine ⟨p, ws, i, j, w, rfl, rfl, hp.1, g1, g2, ixN_seq (by rw [DL.len d]; exact ej), ew, k t _ w _ _ (z.putI hn) ?_ dw hw⟩
  show DqAll _ _ _ ((xs.eraseIdx j).map Py.toPy)
  rw [map_erase]
  exact dpAll_erase d j
theorem y_gsub {to ti : TE} {t : TSet} {QS : L2.St → Hp → Prop} (k : to σ H fun o H1 => ti σ H1 fun i H2 => t o i v H2 fun H3 => QS σ H3) : gSub to ti t v σ H QS := k
theorem y_sti {n : Nat} {ws : List V} {xs : List α} {x : α} {i : Int} {QH : Hp → Prop} {f : List α → W γ} (z : Zs rs H Ho) (hn : rs[n]? = some (p, .lst ws)) (d : DL K Ho ws xs) (dx : Z.D K Ho w x) (hw : (W.bind (sti xs i x) f).run Φ) (k : ∀ xs' ws' H', Zs (rs.set n (p, .lst ws')) H' Ho → DL K Ho ws' xs' → (f xs').run Φ → QH H') : rSetL (.ref p) (.int i) w H QH := by
  have hp := z.rt _ (List.mem_of_getElem? hn)
  obtain ⟨j, ej, hw⟩ := hw
  exact ⟨p, ws, i, j, rfl, rfl, hp.1, by rw [DL.len d]; exact ej, k _ _ _ (z.putI hn) (DL.set d dx j) hw⟩
theorem y_augS {to ti : TE} {tget : V → V → Hp → VK → Prop} {tip : TIp} {tset : TSet} (k : to σ H fun o H1 => ti σ H1 fun i H2 => tget o i H2 fun x H3 => te σ H3 fun y H4 => tip x y H4 fun z H5 => tset o i z H5 fun H6 => u D σ H6) : tSeq (tAugS to ti te tget tip tset) u D σ H := k
theorem y_ip {f : Int → Int → Int} {a b : Int} (k : Q (.int (f a b)) H) : ipI f (.int a) (.int b) H Q := ⟨a, b, rfl, rfl, k⟩
theorem y_aug (σ' : V → L2.St) {tip : TIp} (h : σ[i]? = some (some v)) (hσ : ∀ v, σ.set i (some v) = σ' v) (k : te σ H fun y H1 => tip v y H1 fun z H2 => u D (σ' z) H2) : tSeq (tAug i te tip) u D σ H := by
  have e : (fun z H2 => u D (σ' z) H2) = fun z H2 => u D (σ.set i (some z)) H2 := by funext v H1; rw [hσ]
  refine ⟨v, h, ?_⟩
  rw [e] at k
  exact k
end
end Z

/-! # Y2: what is walked, loops, comprehensions, joins, errors, built-ins -/
namespace Z
open PySem PySem.Spec PyProof.Rows L2

/-! ### what is walked -/
def rng (a b : Int) : List Int := (List.range (b - a).toNat).map fun k : Nat => a + k
def rngD (a b : Int) : List Int := (List.range (a - b).toNat).map fun k : Nat => a - k
def enumZ {α : Type} (xs : List α) : List (Int × α) := (rng 0 xs.length).zip xs
def enumS {α : Type} (n : Int) (xs : List α) : List (Int × α) := (rng n (n + xs.length)).zip xs
def rngOk (a b : Int) : Prop := -(2 ^ 62) ≤ a ∧ a < 2 ^ 62 ∧ -(2 ^ 62) ≤ b ∧ b < 2 ^ 62
/-- the turns of an iterator, by the items' data -/
def Trn {α : Type} [Py α] (K : PySem.W.Frag) (r0 : List (Addr × HO)) (J : It) (xs : List α) (Ho2 : Hp) : Prop :=
  ∀ i rs' H' Ho', Same Ho2 Ho' → Zs rs' H' Ho' → (∀ r ∈ r0, r ∈ rs') → (∀ a, xs[i]? = some a → J.go i H' ∧ ∀ x H'', J.yld i H' x H'' → ∃ Ho'', Same Ho' Ho'' ∧ (∀ rs, Zs rs H' Ho' → Zs rs H'' Ho'') ∧ D K Ho'' x a) ∧ (xs.length ≤ i → J.stop i H')
section
variable {K : PySem.W.Frag} {rs r0 : List (Addr × HO)} {σ : L2.St} {H Ho : Hp} {ta tb tc te tl : TE} {tt tu : TT} {α β γ : Type} [Py α] [Py β] {p : Addr} {Φ : γ → Prop} {R : It → Hp → Prop} {v u : V}
theorem src_stay {q : Addr} {ys : List V} {rs' : List (Addr × HO)} {H Ho' : Hp} (s : SqL K Ho q ys ∨ (q, HO.lst ys) ∈ rs) (e : Same Ho Ho') (z : Zs rs' H Ho') (sub : ∀ r ∈ rs, r ∈ rs') : SqL K H q ys := by
  rcases s with s | s
  · exact z.le.seq (e.seq s)
  · exact SqL.of (z.rt _ (sub _ s)).1
theorem trn_list {q : Addr} {xs : List α} {v : V} (h : LV K r0 Ho v xs) (hv : v = .ref q) : Trn K r0 (Itl K q) xs Ho := by
  intro i rs' H' Ho' e z sub
  obtain ⟨q', ys, rfl, d, s⟩ := h
  cases hv
  have sq : SqL K H' q ys := src_stay s e z sub
  refine ⟨fun a ha => ?_, fun hl => ⟨ys, sq, by rw [d.len]; exact hl⟩⟩
  obtain ⟨w, ew, dw⟩ := d.get ha
  refine ⟨⟨ys, w, sq, ew⟩, fun x H'' y => ?_⟩
  obtain ⟨rfl, y⟩ := y
  have ex : x = w := Option.some.inj ((y _ sq).symm.trans ew)
  subst ex
  exact ⟨Ho', Same.refl _, fun _ z => z, D.mo dw e⟩
theorem y_iList (k : te σ H fun x H1 => ∃ a, x = .ref a ∧ (∃ xs, SqL K H1 a xs) ∧ R (Itl K a) H1) : iList K te σ H R := k
theorem y_srcL {xs : List α} (d : LV K r0 Ho v xs) (hs : ∀ r ∈ r0, r ∈ rs) (z : Zs rs H Ho) (k : ∀ J, Trn K r0 J xs Ho → R J H) : ∃ a, v = .ref a ∧ (∃ ys, SqL K H a ys) ∧ R (Itl K a) H := by
  obtain ⟨q, ys, rfl, dd, s⟩ := id d
  exact ⟨q, rfl, ⟨ys, src_stay s (Same.refl _) z hs⟩, k _ (trn_list d rfl)⟩
theorem trn_tup {q : Addr} {xs : List α} {ys : List V} (s : Ho q = some (.tup ys)) (d : DL K Ho ys xs) : Trn K [] (Itt K q) xs Ho := by
  intro i rs' H' Ho' e z sub
  have sq : SqT K H' q ys := SqT.of (z.le _ _ (e _ _ s))
  refine ⟨fun a ha => ?_, fun hl => ⟨ys, sq, by rw [d.len]; exact hl⟩⟩
  obtain ⟨w, ew, dw⟩ := d.get ha
  refine ⟨⟨ys, w, sq, ew⟩, fun x H'' y => ?_⟩
  obtain ⟨rfl, y⟩ := y
  have ex : x = w := Option.some.inj ((y _ sq).symm.trans ew)
  subst ex
  exact ⟨Ho', Same.refl _, fun _ z => z, D.mo dw e⟩
theorem y_iTup (k : te σ H fun x H1 => ∃ a, x = .ref a ∧ (∃ xs, SqT K H1 a xs) ∧ R (Itt K a) H1) : iTup K te σ H R := k
/-- over a tuple of things of one kind -/
theorem y_srcT {x : β} {xs : List α} (d : D K Ho v x) (hf : toPy x = .tuple (xs.map Py.toPy)) (z : Zs rs H Ho) (k : ∀ J, Trn K [] J xs Ho → R J H) : ∃ a, v = .ref a ∧ (∃ ys, SqT K H a ys) ∧ R (Itt K a) H := by
  have d : Dq K Ho v (toPy x) := d
  rw [hf] at d
  cases d with
  | tup hs ha => exact ⟨_, rfl, ⟨_, SqT.of (z.le _ _ hs)⟩, k _ (trn_tup hs ha)⟩
theorem rng_get {a b : Int} {i : Nat} {x : Int} (h : (rng a b)[i]? = some x) : i < (b - a).toNat ∧ x = a + i := by
  unfold rng at h
  rw [List.getElem?_map] at h
  cases e : (List.range (b - a).toNat)[i]? with
  | none => rw [e] at h; cases h
  | some k =>
    rw [e] at h
    obtain ⟨hl, ek⟩ := List.getElem?_eq_some_iff.mp e
    rw [List.getElem_range] at ek
    subst ek
    rw [List.length_range] at hl
    exact ⟨hl, (Option.some.inj h).symm⟩
theorem rng_len {a b : Int} : (rng a b).length = (b - a).toNat := by unfold rng; simp
theorem trn_range {a b : Int} : Trn K [] (Itr a (b - a).toNat) (rng a b) Ho := by
  intro i rs' H' Ho' e z sub
  refine ⟨fun x hx => ?_, fun hl => ?_⟩
  · obtain ⟨hi, rfl⟩ := rng_get hx
    refine ⟨hi, fun y H'' yy => ?_⟩
    obtain ⟨rfl, rfl⟩ := yy
    exact ⟨Ho', Same.refl _, fun _ z => z, .int _⟩
  · rw [rng_len] at hl
    exact hl
theorem y_iR1 {ts : TA} (k : ts σ H fun vs H1 => ∃ j : Int, vs = [.int j] ∧ -(2 ^ 62) ≤ j ∧ j < 2 ^ 62 ∧ R (Itr 0 j.toNat) H1) : iRng1 ts σ H R := k
theorem y_iR2 {ts : TA} (k : ts σ H fun vs H1 => ∃ i j : Int, vs = [.int i, .int j] ∧ (-(2 ^ 62) ≤ i ∧ i < 2 ^ 62 ∧ -(2 ^ 62) ≤ j ∧ j < 2 ^ 62) ∧ R (Itr i (j - i).toNat) H1) : iRng2 ts σ H R := k
theorem y_srcR1 {n : Int} (hg : rngOk 0 n) (k : ∀ J, Trn K [] J (rng 0 n) Ho → R J H) : ∃ j : Int, [V.int n] = [.int j] ∧ -(2 ^ 62) ≤ j ∧ j < 2 ^ 62 ∧ R (Itr 0 j.toNat) H := by
  refine ⟨n, rfl, hg.2.2.1, hg.2.2.2, ?_⟩
  have e : n.toNat = (n - 0).toNat := by rw [Int.sub_zero]
  rw [e]
  exact k _ trn_range
theorem y_srcR2 {a b : Int} (hg : rngOk a b) (k : ∀ J, Trn K [] J (rng a b) Ho → R J H) : ∃ i j : Int, [V.int a, V.int b] = [.int i, .int j] ∧ (-(2 ^ 62) ≤ i ∧ i < 2 ^ 62 ∧ -(2 ^ 62) ≤ j ∧ j < 2 ^ 62) ∧ R (Itr i (j - i).toNat) H :=
  ⟨a, b, rfl, hg, k _ trn_range⟩
theorem trn_rangeD {a b : Int} : Trn K [] (Itc a (-1) (a - b).toNat) (rngD a b) Ho := by
  intro i rs' H' Ho' e z sub
  refine ⟨fun x hx => ?_, fun hl => ?_⟩
  · unfold rngD at hx
    rw [List.getElem?_map] at hx
    cases q : (List.range (a - b).toNat)[i]? with
    | none => rw [q] at hx; cases hx
    | some k =>
      rw [q] at hx
      obtain ⟨hl, ek⟩ := List.getElem?_eq_some_iff.mp q
      rw [List.getElem_range] at ek
      subst ek
      rw [List.length_range] at hl
      have ex : x = a - i := (Option.some.inj hx).symm
      subst ex
      refine ⟨hl, fun y H'' yy => ?_⟩
      obtain ⟨rfl, rfl⟩ := yy
      have q2 : a + (i : Int) * -1 = a - i := by omega
      rw [q2]
      exact ⟨Ho', Same.refl _, fun _ z => z, .int _⟩
  · unfold rngD at hl
    rw [List.length_map, List.length_range] at hl
    exact hl
theorem trn_zip {a b : Addr} {xs : List α} {ys : List β} {v u : V} (h : LV K r0 Ho v xs) (hv : v = .ref a) (h' : LV K r0 Ho u ys) (hu : u = .ref b) : Trn K r0 (Itz K a b) (xs.zip ys) Ho := by
  intro i rs' H' Ho' e z sub
  obtain ⟨a', vs, rfl, d, s⟩ := h
  obtain ⟨b', us, rfl, d', s'⟩ := h'
  cases hv
  cases hu
  have sa : SqL K H' a vs := src_stay s e z sub
  have sb : SqL K H' b us := src_stay s' e z sub
  refine ⟨fun p hp => ?_, fun hl => ⟨vs, us, sa, sb, ?_⟩⟩
  · obtain ⟨hx, hy⟩ := List.getElem?_zip_eq_some.mp hp
    obtain ⟨x, ex, dx⟩ := d.get hx
    obtain ⟨y, ey, dy⟩ := d'.get hy
    refine ⟨⟨vs, us, x, y, sa, sb, ex, ey⟩, fun t H'' yy => ?_⟩
    obtain ⟨T, x', y', rfl, hT, rfl, qx, qy⟩ := yy
    have e1 : x' = x := Option.some.inj ((qx _ sa).symm.trans ex)
    have e2 : y' = y := Option.some.inj ((qy _ sb).symm.trans ey)
    subst e1 e2
    have e3 : Same Ho' (upd Ho' T (.tup [x', y'])) := Same.new (z.free hT)
    exact ⟨_, e3, fun _ z => z.alloc hT, .tup upd_same (.cons (D.mo (D.mo dx e) e3) (.cons (D.mo (D.mo dy e) e3) .nil))⟩
  · rw [List.length_zip] at hl
    rw [d.len, d'.len]
    omega
theorem trn_enum {a : Addr} {xs : List α} {v : V} (h : LV K r0 Ho v xs) (hv : v = .ref a) : Trn K r0 (Ite K a) (enumZ xs) Ho := by
  intro i rs' H' Ho' e z sub
  obtain ⟨a', vs, rfl, d, s⟩ := h
  cases hv
  have sa : SqL K H' a vs := src_stay s e z sub
  refine ⟨fun p hp => ?_, fun hl => ⟨vs, sa, ?_⟩⟩
  · obtain ⟨hx, hy⟩ := List.getElem?_zip_eq_some.mp hp
    obtain ⟨_, hx⟩ := rng_get hx
    obtain ⟨y, ey, dy⟩ := d.get hy
    refine ⟨⟨vs, y, sa, ey⟩, fun t H'' yy => ?_⟩
    obtain ⟨T, y', rfl, hT, rfl, qy⟩ := yy
    have e2 : y' = y := Option.some.inj ((qy _ sa).symm.trans ey)
    subst e2
    have e3 : Same Ho' (upd Ho' T (.tup [.int (i : Nat), y'])) := Same.new (z.free hT)
    obtain ⟨p1, p2⟩ := p
    dsimp only at hx
    rw [Int.zero_add] at hx
    subst hx
    exact ⟨_, e3, fun _ z => z.alloc hT, .tup upd_same (.cons (.int _) (.cons (D.mo (D.mo dy e) e3) .nil))⟩
  · unfold enumZ at hl
    rw [List.length_zip, rng_len] at hl
    rw [d.len]
    omega
theorem trn_rev {a : Addr} {xs : List α} {v : V} (h : LV K r0 Ho v xs) (hv : v = .ref a) : Trn K r0 (Itv K a xs.length) xs.reverse Ho := by
  intro i rs' H' Ho' e z sub
  obtain ⟨a', vs, rfl, d, s⟩ := h
  cases hv
  have sa : SqL K H' a vs := src_stay s e z sub
  have hl := d.len
  refine ⟨fun p hp => ?_, fun hl => by rw [List.length_reverse] at hl; exact hl⟩
  have hi : i < xs.length := by
    have := (List.getElem?_eq_some_iff.mp hp).1
    rwa [List.length_reverse] at this
  rw [List.getElem?_reverse hi] at hp
  obtain ⟨x, ex, dx⟩ := d.get hp
  refine ⟨⟨hi, vs, x, sa, ex⟩, fun t H'' yy => ?_⟩
  obtain ⟨rfl, qx⟩ := yy
  have e1 : t = x := Option.some.inj ((qx _ sa).symm.trans ex)
  subst e1
  exact ⟨Ho', Same.refl _, fun _ z => z, D.mo dx e⟩
section
variable {ts : TA}
theorem y_iR3 (k : ts σ H fun vs H1 => ∃ (a b c : Int) (n : Nat), vs = [.int a, .int b, .int c] ∧ RgC a b c n ∧ R (Itc a c n) H1) : iRng3 ts σ H R := k
theorem y_srcR3 {a b : Int} (hg : rngOk b a) (k : ∀ J, Trn K [] J (rngD a b) Ho → R J H) : ∃ (a' b' c : Int) (n : Nat), [V.int a, V.int b, V.int (-1)] = [.int a', .int b', .int c] ∧ RgC a' b' c n ∧ R (Itc a' c n) H :=
  ⟨a, b, -1, _, rfl, RgC.neg hg.2.2.1 hg.2.2.2 hg.1 hg.2.1, k _ trn_rangeD⟩
theorem y_iZip (k : ts σ H fun vs H1 => ∃ a b xs ys, vs = [.ref a, .ref b] ∧ SqL K H1 a xs ∧ SqL K H1 b ys ∧ R (Itz K a b) H1) : iZip K ts σ H R := k
theorem y_srcZ {xs : List α} {ys : List β} (d : LV K r0 Ho v xs) (d' : LV K r0 Ho u ys) (hs : ∀ r ∈ r0, r ∈ rs) (z : Zs rs H Ho) (k : ∀ J, Trn K r0 J (xs.zip ys) Ho → R J H) : ∃ a b xs ys, [v, u] = [.ref a, .ref b] ∧ SqL K H a xs ∧ SqL K H b ys ∧ R (Itz K a b) H := by
  obtain ⟨a', vs, rfl, dd, s⟩ := id d
  obtain ⟨b', us, rfl, dd', s'⟩ := id d'
  exact ⟨a', b', vs, us, rfl, src_stay s (Same.refl _) z hs, src_stay s' (Same.refl _) z hs, k _ (trn_zip d rfl d' rfl)⟩
theorem y_iEnum (k : ts σ H fun vs H1 => ∃ a xs, vs = [.ref a] ∧ SqL K H1 a xs ∧ R (Ite K a) H1) : iEnum K ts σ H R := k
theorem y_srcE {xs : List α} (d : LV K r0 Ho v xs) (hs : ∀ r ∈ r0, r ∈ rs) (z : Zs rs H Ho) (k : ∀ J, Trn K r0 J (enumZ xs) Ho → R J H) : ∃ a xs, [v] = [.ref a] ∧ SqL K H a xs ∧ R (Ite K a) H := by
  obtain ⟨a', vs, rfl, dd, s⟩ := id d
  exact ⟨a', vs, rfl, src_stay s (Same.refl _) z hs, k _ (trn_enum d rfl)⟩
theorem y_iRev (k : ts σ H fun vs H1 => ∃ a xs, vs = [.ref a] ∧ SqL K H1 a xs ∧ R (Itv K a xs.length) H1) : iRev K ts σ H R := k
theorem y_srcV {xs : List α} (d : LV K r0 Ho v xs) (hs : ∀ r ∈ r0, r ∈ rs) (z : Zs rs H Ho) (k : ∀ J, Trn K r0 J xs.reverse Ho → R J H) : ∃ a xs, [v] = [.ref a] ∧ SqL K H a xs ∧ R (Itv K a xs.length) H := by
  obtain ⟨a', vs, rfl, dd, s⟩ := id d
  exact ⟨a', vs, rfl, src_stay s (Same.refl _) z hs, by rw [dd.len]; exact k _ (trn_rev d rfl)⟩
end
/-! ### loops -/
theorem drop_cons {γ : Type} {xs : List γ} {i : Nat} {x : γ} (h : xs[i]? = some x) : xs.drop i = x :: xs.drop (i + 1) := by
  obtain ⟨hi, e⟩ := List.getElem?_eq_some_iff.mp h
  rw [List.drop_eq_getElem_cons hi, e]
def ForG (g : TG) (tb u : TS) (D : Ends) (σ : L2.St) (J : It) (H1 : Hp) : Prop := ∃ W : Nat → Nat → L2.St → Hp → Prop, (∃ m, W 0 m σ H1) ∧ ∀ i m σ H, W i m σ H →
  (J.stop i H ∧ u D σ H) ∨ (J.go i H ∧ ∃ N : L2.St → Hp → Prop, (∀ σ' H', N σ' H' → ∃ m', m' < m ∧ W (i + 1) m' σ' H') ∧ ∀ x H', J.yld i H x H' → g x σ H' fun σ2 H2 => tb { D with nx := N, ct := N, bk := u D } σ2 H2)
variable {g : TG} {u1 tb' : TS} {D : Ends}
theorem y_for {wi_ : TI} (k : wi_ σ H fun J H1 => ForG g tb' u1 D σ J H1) : tSeq (tFor wi_ g tb') u1 D σ H := k
theorem y_forL {S : Type} {J : It} {xs : List α} {s0 : S} {body : α → S → W S} {f : S → W γ} (T : Trn K r0 J xs Ho) (hw : (W.bind (W.forL xs s0 body) f).run Φ) (I : S → L2.St → Hp → Hp → Prop) (i0 : I s0 σ H Ho)
    (hz : ∀ s σ' H' Ho', I s σ' H' Ho' → ∃ rs', Zs rs' H' Ho' ∧ ∀ r ∈ r0, r ∈ rs')
    (im : ∀ s σ' H' Ho' H'' Ho'', I s σ' H' Ho' → Same Ho' Ho'' → (∀ rs, Zs rs H' Ho' → Zs rs H'' Ho'') → I s σ' H'' Ho'')
    (step : ∀ a x s σ' H' Ho' (N : L2.St → Hp → Prop), Same Ho Ho' → I s σ' H' Ho' → Z.D K Ho' x a → (body a s).run (fun s' => ∀ σ'' H'' Ho'', Same Ho' Ho'' → I s' σ'' H'' Ho'' → N σ'' H'') → g x σ' H' fun σ2 H2 => tb' { D with nx := N, ct := N, bk := u1 D } σ2 H2)
    (done : ∀ s σ' H' Ho', Same Ho Ho' → I s σ' H' Ho' → (f s).run Φ → u1 D σ' H') : ForG g tb' u1 D σ J H := by
  refine ⟨fun i m σ' H' => m = xs.length - i ∧ i ≤ xs.length ∧ ∃ s Ho', Same Ho Ho' ∧ I s σ' H' Ho' ∧ (W.bind (W.forL (xs.drop i) s body) f).run Φ, ⟨xs.length, by simp, Nat.zero_le _, s0, Ho, Same.refl _, i0, hw⟩, ?_⟩
  rintro i m σ' H' ⟨rfl, hi, s, Ho', e', hI, hw⟩
  obtain ⟨rs', z', sub⟩ := hz s σ' H' Ho' hI
  have tr := T i rs' H' Ho' e' z' sub
  by_cases hlt : i < xs.length
  · refine .inr ?_
    have hxi := List.getElem?_eq_getElem hlt
    obtain ⟨go, yl⟩ := tr.1 _ hxi
    rw [drop_cons hxi] at hw
    refine ⟨go, fun σ'' H'' => ∃ s' Ho'', Same Ho Ho'' ∧ I s' σ'' H'' Ho'' ∧ (W.bind (W.forL (xs.drop (i + 1)) s' body) f).run Φ, fun σ'' H'' hN => ⟨xs.length - (i + 1), by omega, rfl, hlt, hN⟩, fun x H'' y => ?_⟩
    obtain ⟨Ho3, e3, z3, dx⟩ := yl x H'' y
    refine step _ x s σ' H'' Ho3 _ (e'.trans e3) (im _ _ _ _ _ _ hI e3 z3) dx ?_
    exact W.mono _ _ _ (fun s' hs' σ4 H4 Ho4 e4 hI4 => ⟨s', Ho4, (e'.trans e3).trans e4, hI4, hs'⟩) (show (body xs[i] s).run (fun s' => (W.bind (W.forL (xs.drop (i + 1)) s' body) f).run Φ) from hw)
  · have e : i = xs.length := by omega
    subst e
    rw [List.drop_length] at hw
    exact .inl ⟨tr.2 (Nat.le_refl _), done s σ' H' Ho' e' hI hw⟩
theorem y_forC {S ρ : Type} {J : It} {xs : List α} {s0 : S} {body : α → S → W (Ctl ρ S)} {f : S → W ρ} {Φ : ρ → Prop} (T : Trn K r0 J xs Ho) (hw : (W.bind (W.forC xs s0 body) fun c => W.after c f).run Φ) (I : S → L2.St → Hp → Hp → Prop) (i0 : I s0 σ H Ho)
    (hz : ∀ s σ' H' Ho', I s σ' H' Ho' → ∃ rs', Zs rs' H' Ho' ∧ ∀ r ∈ r0, r ∈ rs')
    (im : ∀ s σ' H' Ho' H'' Ho'', I s σ' H' Ho' → Same Ho' Ho'' → (∀ rs, Zs rs H' Ho' → Zs rs H'' Ho'') → I s σ' H'' Ho'')
    (step : ∀ a x s σ' H' Ho' (N B : L2.St → Hp → Prop), Same Ho Ho' → I s σ' H' Ho' → Z.D K Ho' x a → (body a s).run (CtlP (fun s' => ∀ σ'' H'' Ho'', Same Ho' Ho'' → I s' σ'' H'' Ho'' → N σ'' H'') (fun s' => ∀ σ'' H'' Ho'', Same Ho' Ho'' → I s' σ'' H'' Ho'' → B σ'' H'') Φ) → g x σ' H' fun σ2 H2 => tb' { D with nx := N, ct := N, bk := B } σ2 H2)
    (done : ∀ s σ' H' Ho', Same Ho Ho' → I s σ' H' Ho' → (f s).run Φ → u1 D σ' H') : ForG g tb' u1 D σ J H := by
  refine ⟨fun i m σ' H' => m = xs.length - i ∧ i ≤ xs.length ∧ ∃ s Ho', Same Ho Ho' ∧ I s σ' H' Ho' ∧ (W.bind (W.forC (xs.drop i) s body) fun c => W.after c f).run Φ, ⟨xs.length, by simp, Nat.zero_le _, s0, Ho, Same.refl _, i0, hw⟩, ?_⟩
  rintro i m σ' H' ⟨rfl, hi, s, Ho', e', hI, hw⟩
  obtain ⟨rs', z', sub⟩ := hz s σ' H' Ho' hI
  have tr := T i rs' H' Ho' e' z' sub
  by_cases hlt : i < xs.length
  · refine .inr ?_
    have hxi := List.getElem?_eq_getElem hlt
    obtain ⟨go, yl⟩ := tr.1 _ hxi
    rw [drop_cons hxi] at hw
    refine ⟨go, fun σ'' H'' => ∃ s' Ho'', Same Ho Ho'' ∧ I s' σ'' H'' Ho'' ∧ (W.bind (W.forC (xs.drop (i + 1)) s' body) fun c => W.after c f).run Φ, fun σ'' H'' hN => ⟨xs.length - (i + 1), by omega, rfl, hlt, hN⟩, fun x H'' y => ?_⟩
    obtain ⟨Ho3, e3, z3, dx⟩ := yl x H'' y
    refine step _ x s σ' H'' Ho3 _ (u1 D) (e'.trans e3) (im _ _ _ _ _ _ hI e3 z3) dx ?_
    refine W.mono _ _ _ (fun c hc => ?_) (show (body xs[i] s).run _ from hw)
    cases c with
    | nx s' => exact fun σ4 H4 Ho4 e4 hI4 => ⟨s', Ho4, (e'.trans e3).trans e4, hI4, hc⟩
    | bk s' => exact fun σ4 H4 Ho4 e4 hI4 => done s' σ4 H4 Ho4 ((e'.trans e3).trans e4) hI4 hc
    | rt r => exact hc
  · have e : i = xs.length := by omega
    subst e
    rw [List.drop_length] at hw
    exact .inl ⟨tr.2 (Nat.le_refl _), done s σ' H' Ho' e' hI hw⟩
theorem y_while {S ρ : Type} {s0 : S} {body : S → W (Ctl ρ S)} {f : S → W ρ} {Φ : ρ → Prop} (hw : (W.bind (W.whileL s0 body) fun c => W.after c f).run Φ) (I : S → L2.St → Hp → Hp → Prop) (i0 : I s0 σ H Ho)
    (step : ∀ s σ' H' Ho' (N B : L2.St → Hp → Prop) (E : (L2.St → Hp → Prop) → Prop), E N → Same Ho Ho' → I s σ' H' Ho' → (body s).run (CtlP (fun s' => ∀ σ'' H'' Ho'', Same Ho' Ho'' → I s' σ'' H'' Ho'' → N σ'' H'') (fun s' => ∀ σ'' H'' Ho'', Same Ho' Ho'' → I s' σ'' H'' Ho'' → B σ'' H'') Φ) →
      tt σ' H' fun b H1 => if b = true then ∃ N, E N ∧ tb' { D with nx := N, ct := N, bk := B } σ' H1 else B σ' H1)
    (done : ∀ s σ' H' Ho', Same Ho Ho' → I s σ' H' Ho' → (f s).run Φ → u1 D σ' H') : tSeq (tWhile tt tb') u1 D σ H := by
  obtain ⟨n, hw⟩ := hw
  refine ⟨fun m σ' H' => ∃ s Ho', Same Ho Ho' ∧ I s σ' H' Ho' ∧ (W.bind (W.whileN m s body) fun c => W.after c f).run Φ, ⟨n, s0, Ho, Same.refl _, i0, hw⟩, ?_⟩
  rintro m σ' H' ⟨s, Ho', e', hI, hw⟩
  cases m with
  | zero => exact hw.elim
  | succ m =>
    refine step s σ' H' Ho' (fun σ'' H'' => ∃ s' Ho'', Same Ho Ho'' ∧ I s' σ'' H'' Ho'' ∧ (W.bind (W.whileN m s' body) fun c => W.after c f).run Φ) (u1 D) (fun N => ∀ σ' H', N σ' H' → ∃ m', m' < m + 1 ∧ ∃ s Ho', Same Ho Ho' ∧ I s σ' H' Ho' ∧ (W.bind (W.whileN m' s body) fun c => W.after c f).run Φ) (fun σ2 H2 h2 => ⟨m, Nat.lt_succ_self _, h2⟩) e' hI ?_
    refine W.mono _ _ _ (fun c hc => ?_) (show (body s).run _ from hw)
    cases c with
    | nx s' => exact fun σ4 H4 Ho4 e4 hI4 => ⟨s', Ho4, e'.trans e4, hI4, hc⟩
    | bk s' => exact fun σ4 H4 Ho4 e4 hI4 => done s' σ4 H4 Ho4 (e'.trans e4) hI4 hc
    | rt r => exact hc
end
end Z

/-! # Y3: targets, comprehensions, joins, errors, built-ins -/
namespace Z
open PySem PySem.Spec PyProof.Rows L2
section
variable {K : PySem.W.Frag} {rs r0 : List (Addr × HO)} {σ : L2.St} {H Ho : Hp} {ta tb tc te tl : TE} {tt tu : TT} {α β γ : Type} [Py α] [Py β] {p : Addr} {Φ : γ → Prop} {Q : VK} {v u : V}
/-! ### targets -/
theorem y_gname {i : Nat} {x : V} {σ σ' : L2.St} {Q : L2.St → Hp → Prop} (hs : σ.set i (some x) = σ') (h : Q σ' H) : gName i x σ H Q := by
  show Q _ H
  rw [hs]
  exact h
theorem y_gt2 {i j : Nat} {x : V} {σ : L2.St} {Q : L2.St → Hp → Prop} {a : α × β} (d : D K Ho x a) (z : Zs rs H Ho) (k : ∀ v u, D K Ho v a.1 → D K Ho u a.2 → Q ((σ.set i (some v)).set j (some u)) H) : gTup K 2 (gCons (gName i) (gCons (gName j) gNil)) x σ H Q := by
  cases d with
  | tup hs ha =>
    cases ha with
    | cons h1 h2 =>
      cases h2 with
      | cons h2 h3 =>
        cases h3
        exact ⟨_, _, rfl, SqT.of (z.le _ _ hs), rfl, _, _, rfl, _, _, rfl, rfl, k _ _ h1 h2⟩
theorem y_gt3 {δ : Type} [Py δ] {i j l : Nat} {x : V} {σ : L2.St} {Q : L2.St → Hp → Prop} {a : P3 α β δ} (d : D K Ho x a) (z : Zs rs H Ho) (k : ∀ v u w, D K Ho v a.a → D K Ho u a.b → D K Ho w a.c → Q (((σ.set i (some v)).set j (some u)).set l (some w)) H) :
    gTup K 3 (gCons (gName i) (gCons (gName j) (gCons (gName l) gNil))) x σ H Q := by
  cases d with
  | tup hs ha =>
    cases ha with
    | cons h1 h2 =>
      cases h2 with
      | cons h2 h3 =>
        cases h3 with
        | cons h3 h4 =>
          cases h4
          exact ⟨_, _, rfl, SqT.of (z.le _ _ hs), rfl, _, _, rfl, _, _, rfl, _, _, rfl, rfl, k _ _ _ h1 h2 h3⟩
theorem y_gt4 {δ ε : Type} [Py δ] [Py ε] {i j l m : Nat} {x : V} {σ : L2.St} {Q : L2.St → Hp → Prop} {a : P4 α β δ ε} (d : D K Ho x a) (z : Zs rs H Ho) (k : ∀ v u w t, D K Ho v a.a → D K Ho u a.b → D K Ho w a.c → D K Ho t a.d → Q ((((σ.set i (some v)).set j (some u)).set l (some w)).set m (some t)) H) :
    gTup K 4 (gCons (gName i) (gCons (gName j) (gCons (gName l) (gCons (gName m) gNil)))) x σ H Q := by
  cases d with
  | tup hs ha =>
    cases ha with
    | cons h1 h2 =>
      cases h2 with
      | cons h2 h3 =>
        cases h3 with
        | cons h3 h4 =>
          cases h4 with
          | cons h4 h5 =>
            cases h5
            exact ⟨_, _, rfl, SqT.of (z.le _ _ hs), rfl, _, _, rfl, _, _, rfl, _, _, rfl, _, _, rfl, rfl, k _ _ _ _ h1 h2 h3 h4⟩
/-! ### comprehensions -/
def comp {α β : Type} : List α → List β → (α → W Bool) → (α → W β) → W (List β)
  | [], acc, _, _ => W.ret acc
  | x :: xs, acc, t, f => W.bind (t x) fun b => W.ite b (W.bind (f x) fun y => comp xs (acc ++ [y]) t f) (comp xs acc t f)
def compG {α β : Type} (xs : List α) (t : α → W Bool) (f : α → W β) : W (List β) := W.guard (xs.length ≤ sizeLine) (comp xs [] t f)
/-- with a state -/
def compS {α β S : Type} : List α → List β → S → (α → S → W (Option β × S)) → W (List β × S)
  | [], acc, s, _ => W.ret (acc, s)
  | x :: xs, acc, s, f => W.bind (f x s) fun r => match r.1 with
    | none => compS xs acc r.2 f
    | some y => compS xs (acc ++ [y]) r.2 f
def compSG {α β S : Type} (xs : List α) (s : S) (f : α → S → W (Option β × S)) : W (List β × S) := W.guard (xs.length ≤ sizeLine) (compS xs [] s f)
def LcG (g : TG) (tt : TT) (te : TE) (vs : List Nat) (σ : L2.St) (Q : VK) (J : It) (H1 : Hp) : Prop := ∀ D, H1 D = none → ∃ W : Nat → Nat → Hp → Prop, (∃ m, W 0 m (upd H1 D (.lst []))) ∧ ∀ i m H, W i m H →
  (J.stop i H ∧ Q (.ref D) H) ∨ (J.go i H ∧ ∃ Nx : Hp → Prop, (∀ H', Nx H' → ∃ m', m' < m ∧ W (i + 1) m' H') ∧ ∀ x H', J.yld i H x H' → g x (wipe σ vs) H' fun σ2 H2 => wipe σ2 vs = wipe σ vs ∧ tt σ2 H2 fun b H3 =>
    if b = true then te σ2 H3 fun y H4 => ∃ acc, H4 D = some (.lst acc) ∧ acc.length < sizeLine ∧ Nx (upd H4 D (.lst (acc ++ [y]))) else Nx H3)
variable {g : TG} {vs : List Nat} {wi : TI}
theorem y_lc (k : wi σ H fun J H1 => LcG g tt te vs σ Q J H1) : tLc wi g tt te vs σ H Q := k
theorem y_yes {QB : Bool → Hp → Prop} (k : QB true H) : tYes σ H QB := k
theorem y_lcG {J : It} {xs : List α} {ct : α → W Bool} {cf : α → W β} {f : List β → W γ} (z : Zs rs H Ho) (hr : ∀ r ∈ r0, r ∈ rs) (T : Trn K r0 J xs Ho) (hw : (W.bind (compG xs ct cf) f).run Φ)
    (hx : ∀ (r : Addr × HO) a x H' Ho' (N : VK) (N' : Hp → Prop), Same Ho Ho' → Zs (r :: rs) H' Ho' → Z.D K Ho' x a →
      (W.bind (ct a) fun b => W.ite b (cf a) ⟨fun Ψ => ∀ H'' Ho'', Same Ho' Ho'' → Zs (r :: rs) H'' Ho'' → N' H'', fun _ _ _ q => q⟩).run (fun y => ∀ w H'' Ho'', Same Ho' Ho'' → Zs (r :: rs) H'' Ho'' → Z.D K Ho'' w y → N w H'') →
      g x (wipe σ vs) H' fun σ2 H2 => wipe σ2 vs = wipe σ vs ∧ tt σ2 H2 fun b H3 => if b = true then te σ2 H3 N else N' H3)
    (k : ∀ ys H' Ho', Same Ho Ho' → (f ys).run Φ → ∀ p ws, Zs ((p, .lst ws) :: rs) H' Ho' → DL K Ho' ws ys → Q (.ref p) H') : LcG g tt te vs σ Q J H := by
  intro Dn hD
  obtain ⟨hsz, hw⟩ := hw
  refine ⟨fun i m H => m = xs.length - i ∧ i ≤ xs.length ∧ ∃ (Ho' : Hp) (acc : List β) (acs : List V), Same Ho Ho' ∧ Zs ((Dn, .lst acs) :: rs) H Ho' ∧ DL K Ho' acs acc ∧ acs.length ≤ i ∧ (comp (xs.drop i) acc ct cf).run fun ys => (f ys).run Φ,
    ⟨xs.length, by simp, Nat.zero_le _, Ho, [], [], Same.refl _, z.root hD, .nil, Nat.le_refl _, hw⟩, ?_⟩
  rintro i m H ⟨rfl, hi, Ho', acc, acs, e', z', da, la, hw⟩
  have tr := T i _ H Ho' e' z' fun r hrr => List.mem_cons_of_mem _ (hr r hrr)
  by_cases hlt : i < xs.length
  · refine .inr ?_
    have hxi := List.getElem?_eq_getElem hlt
    obtain ⟨go, yl⟩ := tr.1 _ hxi
    refine ⟨go, fun H' => ∃ (Ho' : Hp) (acc : List β) (acs : List V), Same Ho Ho' ∧ Zs ((Dn, .lst acs) :: rs) H' Ho' ∧ DL K Ho' acs acc ∧ acs.length ≤ i + 1 ∧ (comp (xs.drop (i + 1)) acc ct cf).run fun ys => (f ys).run Φ, fun H' hN => ⟨xs.length - (i + 1), by omega, rfl, hlt, hN⟩, fun x H' y => ?_⟩
    obtain ⟨Ho2, e2, z2, dx⟩ := yl x H' y
    rw [drop_cons hxi] at hw
    refine hx (Dn, .lst acs) _ x H' Ho2 _ _ (e'.trans e2) (z2 _ z') dx ?_
    have hw : (ct xs[i]).run fun b => (W.ite b (W.bind (cf xs[i]) fun y => comp (xs.drop (i + 1)) (acc ++ [y]) ct cf) (comp (xs.drop (i + 1)) acc ct cf)).run fun ys => (f ys).run Φ := hw
    show (ct xs[i]).run _
    refine W.mono _ _ _ (fun b hb => ?_) hw
    refine ⟨fun e => ?_, fun e H'' Ho'' e3 z3 => ?_⟩
    · refine W.mono _ _ _ (fun y hy w H'' Ho'' e3 z3 dw => ?_) (hb.1 e)
      refine ⟨acs, z3.head, by omega, Ho'', acc ++ [y], acs ++ [w], (e'.trans e2).trans e3, z3.put, (DL.mo (DL.mo da e2) e3).push dw, ?_, hy⟩
      rw [List.length_append]
      exact Nat.succ_le_succ la
    · exact ⟨Ho'', acc, acs, (e'.trans e2).trans e3, z3, DL.mo (DL.mo da e2) e3, Nat.le_succ_of_le la, hb.2 e⟩
  · have e : i = xs.length := by omega
    subst e
    refine .inl ⟨tr.2 (Nat.le_refl _), ?_⟩
    rw [List.drop_length] at hw
    exact k acc H Ho' e' hw Dn acs z' da
theorem y_lcS {S : Type} {J : It} {xs : List α} {s0 : S} {body : α → S → W (Option β × S)} {f : List β × S → W γ} (z : Zs rs H Ho) (T : Trn K r0 J xs Ho) (hw : (W.bind (compSG xs s0 body) f).run Φ) (I : (Addr × HO) → S → Hp → Hp → Prop)
    (i0 : ∀ r H', Zs (r :: rs) H' Ho → I r s0 H' Ho)
    (iz : ∀ r s H' Ho', I r s H' Ho' → ∃ rs', Zs (r :: rs') H' Ho' ∧ ∀ q ∈ r0, q ∈ rs')
    (im : ∀ r s H' Ho' H'' Ho'', I r s H' Ho' → Same Ho' Ho'' → (∀ rs, Zs rs H' Ho' → Zs rs H'' Ho'') → I r s H'' Ho'')
    (ip : ∀ p o o' s H' Ho', NotTup o' → I (p, o) s H' Ho' → I (p, o') s (upd H' p o') Ho')
    (hx : ∀ (r : Addr × HO) a x s H' Ho' (N : VK) (N' : Hp → Prop), Same Ho Ho' → I r s H' Ho' → Z.D K Ho' x a →
      (body a s).run (fun q => match q.1 with | some y => ∀ w H'' Ho'', Same Ho' Ho'' → I r q.2 H'' Ho'' → Z.D K Ho'' w y → N w H'' | none => ∀ H'' Ho'', Same Ho' Ho'' → I r q.2 H'' Ho'' → N' H'') →
      g x (wipe σ vs) H' fun σ2 H2 => wipe σ2 vs = wipe σ vs ∧ tt σ2 H2 fun b H3 => if b = true then te σ2 H3 N else N' H3)
    (k : ∀ ys s p ws H' Ho', Same Ho Ho' → I (p, .lst ws) s H' Ho' → DL K Ho' ws ys → (f (ys, s)).run Φ → Q (.ref p) H') : LcG g tt te vs σ Q J H := by
  intro Dn hD
  obtain ⟨hsz, hw⟩ := hw
  refine ⟨fun i m H => m = xs.length - i ∧ i ≤ xs.length ∧ ∃ (Ho' : Hp) (acc : List β) (acs : List V) (s : S), Same Ho Ho' ∧ I (Dn, .lst acs) s H Ho' ∧ DL K Ho' acs acc ∧ acs.length ≤ i ∧ (compS (xs.drop i) acc s body).run fun q => (f q).run Φ,
    ⟨xs.length, by simp, Nat.zero_le _, Ho, [], [], s0, Same.refl _, i0 _ _ (z.root hD), .nil, Nat.le_refl _, hw⟩, ?_⟩
  rintro i m H ⟨rfl, hi, Ho', acc, acs, s, e', hI, da, la, hw⟩
  obtain ⟨rs', z', sub⟩ := iz _ _ _ _ hI
  have tr := T i _ H Ho' e' z' fun r hrr => List.mem_cons_of_mem _ (sub r hrr)
  by_cases hlt : i < xs.length
  · refine .inr ?_
    have hxi := List.getElem?_eq_getElem hlt
    obtain ⟨go, yl⟩ := tr.1 _ hxi
    refine ⟨go, fun H' => ∃ (Ho' : Hp) (acc : List β) (acs : List V) (s : S), Same Ho Ho' ∧ I (Dn, .lst acs) s H' Ho' ∧ DL K Ho' acs acc ∧ acs.length ≤ i + 1 ∧ (compS (xs.drop (i + 1)) acc s body).run fun q => (f q).run Φ, fun H' hN => ⟨xs.length - (i + 1), by omega, rfl, hlt, hN⟩, fun x H' y => ?_⟩
    obtain ⟨Ho2, e2, z2, dx⟩ := yl x H' y
    rw [drop_cons hxi] at hw
    refine hx (Dn, .lst acs) _ x s H' Ho2 _ _ (e'.trans e2) (im _ _ _ _ _ _ hI e2 z2) dx ?_
    refine W.mono _ _ _ (fun q hq => ?_) (show (body xs[i] s).run _ from hw)
    obtain ⟨o, s'⟩ := q
    cases o with
    | some y =>
      intro w H'' Ho'' e3 hI3 dw
      obtain ⟨rs3, z3, _⟩ := iz _ _ _ _ hI3
      refine ⟨acs, z3.head, by omega, Ho'', acc ++ [y], acs ++ [w], s', (e'.trans e2).trans e3, ip _ _ _ _ _ _ trivial hI3, (DL.mo (DL.mo da e2) e3).push dw, ?_, hq⟩
      rw [List.length_append]
      exact Nat.succ_le_succ la
    | none =>
      intro H'' Ho'' e3 hI3
      exact ⟨Ho'', acc, acs, s', (e'.trans e2).trans e3, hI3, DL.mo (DL.mo da e2) e3, Nat.le_succ_of_le la, hq⟩
  · have e : i = xs.length := by omega
    subst e
    refine .inl ⟨tr.2 (Nat.le_refl _), ?_⟩
    rw [List.drop_length] at hw
    exact k acc s Dn acs H Ho' e' hI da hw
/-! ### where ways meet -/
theorem y_join {ρ β : Type} {a : Bool} {c1 c2 : W β} {f : β → W γ} {X Y : Prop} {Q : ρ → Hp → Prop} (hw : (W.bind (W.ite a c1 c2) f).run Φ) (J : β → ρ → Hp → Prop)
    (h1 : a = true → (∀ r v H', J r v H' → (f r).run Φ → Q v H') → (W.bind c1 f).run Φ → X)
    (h2 : a = false → (∀ r v H', J r v H' → (f r).run Φ → Q v H') → (W.bind c2 f).run Φ → Y)
    (k : ∀ r v H', J r v H' → (f r).run Φ → Q v H') : if a = true then X else Y := by
  cases a with
  | true => exact iteT (h1 rfl k (hw.1 rfl))
  | false => exact iteF (h2 rfl k (hw.2 rfl))
/-- both ways are total and lay nothing down -/
theorem y_andP {a : Bool} (b : Bool) {X : Prop} {Q : Bool → Hp → Prop} (h : a = true → Q b H → X) (k : Q (a && b) H) : if a = true then X else Q false H := by
  cases a with
  | true => exact iteT (h rfl k)
  | false => exact iteF k
theorem y_orP {a : Bool} (b : Bool) {X : Prop} {Q : Bool → Hp → Prop} (h : a = false → Q b H → X) (k : Q (a || b) H) : if a = true then Q true H else X := by
  cases a with
  | true => exact iteT k
  | false => exact iteF (h rfl k)
theorem y_andPV {a : Bool} (b : Bool) {X : Prop} (h : a = true → Q (.bl b) H → X) (k : Q (.bl (a && b)) H) : if a = true then X else Q (.bl false) H := by
  cases a with
  | true => exact iteT (h rfl k)
  | false => exact iteF k
theorem y_orPV {a : Bool} (b : Bool) {X : Prop} (h : a = false → Q (.bl b) H → X) (k : Q (.bl (a || b)) H) : if a = true then Q (.bl true) H else X := by
  cases a with
  | true => exact iteT k
  | false => exact iteF (h rfl k)
/-! ### errors -/
def ExP {α : Type} (N : α → Prop) (R : Er → Prop) : Ex α → Prop
  | .ok a => N a
  | .er e => R e
theorem exP_ok {α : Type} {N : α → Prop} {R : Er → Prop} {a : α} (h : ExP N R (.ok a)) : N a := h
theorem exP_er {α : Type} {N : α → Prop} {R : Er → Prop} {e : Er} (h : ExP N R (.er e)) : R e := h
def W.exm {α β : Type} (c : W (Ex α)) (f : α → W β) (g : Er → W β) : W β := W.bind c fun r => match r with
  | .ok a => f a
  | .er e => g e
/-- where nothing may be raised -/
def W.sure {α : Type} (c : W (Ex α)) : W α := W.exm c W.ret fun _ => W.bad
theorem run_exm {α β : Type} {c : W (Ex α)} {f : α → W β} {g : Er → W β} {Φ : β → Prop} (h : (W.exm c f g).run Φ) : c.run (ExP (fun a => (f a).run Φ) fun e => (g e).run Φ) :=
  W.mono _ _ _ (fun r hr => by cases r with | ok a => exact hr | er e => exact hr) h
theorem exm_run {α β : Type} {c : W (Ex α)} {f : α → W β} {g : Er → W β} {Φ : β → Prop} (h : c.run (ExP (fun a => (f a).run Φ) fun e => (g e).run Φ)) : (W.exm c f g).run Φ :=
  c.mono (ExP (fun a => (f a).run Φ) fun e => (g e).run Φ) _ (fun r hr => by cases r with | ok a => exact hr | er e => exact hr) h
theorem run_sure {α β : Type} {c : W (Ex α)} {f : α → W β} {Φ : β → Prop} (h : (W.bind (W.sure c) f).run Φ) : c.run (ExP (fun a => (f a).run Φ) fun _ => False) := run_exm h
theorem y_callS {sp : Sp} {E : L2.St → XK} {ts : TA} (k : ts σ H fun vs H1 => sp vs H1 Q (E σ)) : tCallS sp E ts σ H Q := k
def tRaise (C : Addr) (Wx : WX) : TS := fun _ σ H => Wx (.ref C) none σ H
theorem y_raise {C : Addr} {Wx : WX} {w : TS} {D : Ends} (k : Wx (.ref C) none σ H) : tSeq (tRaise C Wx) w D σ H := k
def tTryAs (K : PySem.W.Frag) (c : Value) (i : Nat) (tb : WX → TS) (ts : Addr → Value → Option Addr → TS) (Wout : WX) : TS := fun D σ H => tb (wAs K c i ts Wout D) D σ H
def tTryOnly (K : PySem.W.Frag) (c : Value) (tb : WX → TS) (ts : Addr → Value → Option Addr → TS) (Wout : WX) : TS := fun D σ H => tb (wOnly K c ts Wout D) D σ H
variable {cl : Nat → Addr} {Wout : WX} {D : Ends} {u1 : TS} {i : Nat}
theorem y_tryJ {S : Type} {c : Value} {cb : W (Ex S)} {cs : Er → W S} {f : S → W γ} {tb : WX → TS} {ts : Addr → Value → Option Addr → TS} {sub : Nat → Bool} (σ' : Addr → L2.St) (hm : ∀ n, PySem.W.exmOne K (.ref (cl n)) c = some (sub n)) (z : Zs rs H Ho)
    (hw : (W.bind (W.exm cb W.ret fun e => W.guard (sub e.cls = true) (cs e)) f).run Φ) (J : S → L2.St → Hp → Hp → Prop) (hσ : ∀ a, σ.set i (some (.ref a)) = σ' a)
    (hb : ∀ (Wx : WX) (N : L2.St → Hp → Prop), cb.run (ExP (fun s => ∀ σ' H'' Ho'', Same Ho Ho'' → J s σ' H'' Ho'' → N σ' H'') fun e => ∀ H' Ho', Same Ho Ho' → Zs rs H' Ho' → Wx (.ref (cl e.cls)) none σ H') → tb Wx { D with nx := N } σ H)
    (hs : ∀ e a H' Ho' (N : L2.St → Hp → Prop), Same Ho Ho' → Zs rs H' Ho' → H' a = none → (cs e).run (fun s => ∀ σ' H'' Ho'', Same Ho' Ho'' → J s σ' H'' Ho'' → N σ' H'') →
      ts a (.ref (cl e.cls)) none { nx := fun σ' H' => N (σ'.set i none) H', rt := D.rt, bk := fun σ' H' => D.bk (σ'.set i none) H', ct := fun σ' H' => D.ct (σ'.set i none) H' } (σ' a) H')
    (k : ∀ s σ' H' Ho', Same Ho Ho' → J s σ' H' Ho' → (f s).run Φ → u1 D σ' H') : tSeq (tTryAs K c i tb ts Wout) u1 D σ H := by
  refine hb _ _ (W.mono _ _ _ (fun r hr => ?_) (run_exm hw))
  cases r with
  | ok s => exact fun σ' H' Ho' e j => k s σ' H' Ho' e j hr
  | er r =>
    refine fun H' Ho' e z' => ⟨true, by rw [hm, hr.1], fun _ a ha => ?_, fun q => nomatch q⟩
    rw [hσ]
    exact hs r a H' Ho' (u1 D) e z' ha (W.mono _ _ _ (fun s hs σ' H'' Ho'' e'' j => k s σ' H'' Ho'' (e.trans e'') j hs) hr.2)
theorem y_tryOJ {S : Type} {c : Value} {cb : W (Ex S)} {cs : Er → W S} {f : S → W γ} {tb : WX → TS} {ts : Addr → Value → Option Addr → TS} {sub : Nat → Bool} (hm : ∀ n, PySem.W.exmOne K (.ref (cl n)) c = some (sub n)) (z : Zs rs H Ho)
    (hw : (W.bind (W.exm cb W.ret fun e => W.guard (sub e.cls = true) (cs e)) f).run Φ) (J : S → L2.St → Hp → Hp → Prop)
    (hb : ∀ (Wx : WX) (N : L2.St → Hp → Prop), cb.run (ExP (fun s => ∀ σ' H'' Ho'', Same Ho Ho'' → J s σ' H'' Ho'' → N σ' H'') fun e => ∀ H' Ho', Same Ho Ho' → Zs rs H' Ho' → Wx (.ref (cl e.cls)) none σ H') → tb Wx { D with nx := N } σ H)
    (hs : ∀ e a H' Ho' (N : L2.St → Hp → Prop), Same Ho Ho' → Zs rs H' Ho' → H' a = none → (cs e).run (fun s => ∀ σ' H'' Ho'', Same Ho' Ho'' → J s σ' H'' Ho'' → N σ' H'') → ts a (.ref (cl e.cls)) none { D with nx := N } σ H')
    (k : ∀ s σ' H' Ho', Same Ho Ho' → J s σ' H' Ho' → (f s).run Φ → u1 D σ' H') : tSeq (tTryOnly K c tb ts Wout) u1 D σ H := by
  refine hb _ _ (W.mono _ _ _ (fun r hr => ?_) (run_exm hw))
  cases r with
  | ok s => exact fun σ' H' Ho' e j => k s σ' H' Ho' e j hr
  | er r =>
    refine fun H' Ho' e z' => ⟨true, by rw [hm, hr.1], fun _ a ha => ?_, fun q => nomatch q⟩
    exact hs r a H' Ho' (u1 D) e z' ha (W.mono _ _ _ (fun s hs σ' H'' Ho'' e'' j => k s σ' H'' Ho'' (e.trans e'') j hs) hr.2)
/-! ### built-ins by values -/
def rLenZ (K : PySem.W.Frag) : List V → Hp → VK → Prop := fun xs H Q => ∃ p ys, xs = [.ref p] ∧ (SqL K H p ys ∨ SqT K H p ys) ∧ Q (.int ys.length) H
def rListZ (K : PySem.W.Frag) : List V → Hp → VK → Prop := fun xs H Q => ∃ p ys, xs = [.ref p] ∧ (SqL K H p ys ∨ SqT K H p ys) ∧ ∀ l, H l = none → Q (.ref l) (upd H l (.lst ys))
theorem y_len {xs : List α} (d : LV K rs Ho v xs) (z : Zs rs H Ho) (k : Q (.int (xs.length : Int)) H) : rLenZ K [v] H Q := by
  obtain ⟨p, vs, rfl, d, s⟩ := LV.rd d z
  refine ⟨p, vs, rfl, .inl s, ?_⟩
  rw [d.len]
  exact k
theorem y_list {xs : List α} (d : LV K rs Ho v xs) (z : Zs rs H Ho) (k : ∀ H' p ws, Zs ((p, .lst ws) :: rs) H' Ho → DL K Ho ws xs → Q (.ref p) H') : rListZ K [v] H Q := by
  obtain ⟨p, vs, rfl, d, s⟩ := LV.rd d z
  exact ⟨p, vs, rfl, .inl s, fun q hq => k _ q _ (z.root hq) d⟩
theorem y_abs {a : Int} (k : Q (.int (if a < 0 then -a else a)) H) : (fun xs H Q => ∃ i, xs = [.int i] ∧ Q (.int (if i < 0 then -i else i)) H : List V → Hp → VK → Prop) [.int a] H Q := ⟨a, rfl, k⟩
theorem y_intB {a : Bool} (k : Q (.int (if a then 1 else 0)) H) : (fun xs H Q => (∃ i, xs = [.int i] ∧ Q (.int i) H) ∨ ∃ k, xs = [.bl k] ∧ Q (.int (if k then 1 else 0)) H : List V → Hp → VK → Prop) [.bl a] H Q := .inr ⟨a, rfl, k⟩
theorem y_min2 {a b : Int} (k : Q (.int (if b < a then b else a)) H) : (fun xs H Q => ∃ i j, xs = [.int i, .int j] ∧ Q (.int (if j < i then j else i)) H : List V → Hp → VK → Prop) [.int a, .int b] H Q := ⟨a, b, rfl, k⟩
theorem y_max2 {a b : Int} (k : Q (.int (if b > a then b else a)) H) : (fun xs H Q => ∃ i j, xs = [.int i, .int j] ∧ Q (.int (if j > i then j else i)) H : List V → Hp → VK → Prop) [.int a, .int b] H Q := ⟨a, b, rfl, k⟩
theorem y_all {xs : List Bool} (d : LV K rs Ho v xs) (z : Zs rs H Ho) (k : Q (.bl (xs.all id)) H) : rAll K [v] H Q := by
  obtain ⟨p, vs, rfl, d, s⟩ := LV.rd d z
  rw [dl_bools d] at s
  exact ⟨p, xs, rfl, s, k⟩
theorem y_any {xs : List Bool} (d : LV K rs Ho v xs) (z : Zs rs H Ho) (k : Q (.bl (xs.any id)) H) : rAny K [v] H Q := by
  obtain ⟨p, vs, rfl, d, s⟩ := LV.rd d z
  rw [dl_bools d] at s
  exact ⟨p, xs, rfl, s, k⟩
theorem y_sum {xs : List Int} (d : LV K rs Ho v xs) (z : Zs rs H Ho) (k : Q (.int xs.sum) H) : rSum K [v] H Q := by
  obtain ⟨p, vs, rfl, d, s⟩ := LV.rd d z
  rw [dl_ints d] at s
  exact ⟨p, xs, rfl, s, k⟩
def srtI (xs : List Int) : List Int := xs.mergeSort fun a b => decide (a ≤ b)
theorem srtI_perm (xs : List Int) : (srtI xs).Perm xs := List.mergeSort_perm xs _
theorem srtI_srt (xs : List Int) : (srtI xs).Pairwise (· ≤ ·) := by
  have h := List.pairwise_mergeSort (le := fun a b : Int => decide (a ≤ b)) (fun a b c h1 h2 => by simp at h1 h2 ⊢; omega) (fun a b => by simp; omega) xs
  exact h.imp fun h => of_decide_eq_true h
theorem srtI_of {xs ys : List Int} (h : ys.Perm xs) (hs : ys.Pairwise (· ≤ ·)) : ys = srtI xs :=
  List.Perm.eq_of_pairwise (le := (· ≤ ·)) (fun a b _ _ h1 h2 => Int.le_antisymm h1 h2) hs (srtI_srt xs) (h.trans (srtI_perm xs).symm)
theorem y_sortI {xs : List Int} (d : LV K rs Ho v xs) (z : Zs rs H Ho) (k : ∀ H' p ws, Zs ((p, .lst ws) :: rs) H' Ho → DL K Ho ws (srtI xs) → Q (.ref p) H') : rSortedI K [v] H Q := by
  obtain ⟨p, vs, rfl, d, s⟩ := LV.rd d z
  rw [dl_ints d] at s
  refine ⟨p, xs, rfl, s, fun ns' q hp hs hq => ?_⟩
  rw [srtI_of hp hs]
  exact k _ q _ (z.root hq) ints_dl
def mxD (ns : List Int) (d : Int) : Int := match ns with
  | [] => d
  | x :: xs => xs.foldl (fun a y => if decide (a < y) = true then y else a) x
def mnD (ns : List Int) (d : Int) : Int := match ns with
  | [] => d
  | x :: xs => xs.foldl (fun a y => if decide (y < a) = true then y else a) x
def rMxD (K : PySem.W.Frag) : List V → List V → Hp → VK → Prop := fun vs zs H Q => ∃ (a : Addr) (ns : List Int) (d : Int), vs = [V.ref a] ∧ zs = [V.int d] ∧ SqL K H a (ns.map V.int) ∧ Q (.int (mxD ns d)) H
def rMnD (K : PySem.W.Frag) : List V → List V → Hp → VK → Prop := fun vs zs H Q => ∃ (a : Addr) (ns : List Int) (d : Int), vs = [V.ref a] ∧ zs = [V.int d] ∧ SqL K H a (ns.map V.int) ∧ Q (.int (mnD ns d)) H
theorem hold_ints {h : Heap} : ∀ {ns : List Int} {us : List Value}, Vals (ns.map V.int) us → PySem.W.HoldAll h us ns
  | [], us, r => by cases r; exact PySem.W.HoldAll.nil
  | n :: ns, us, r => by
    cases r with
    | cons r1 r2 =>
      obtain ⟨t, rfl⟩ := r1
      exact PySem.W.HoldAll.cons (PySem.W.holds_int n t) (hold_ints r2)
theorem zmxD {X : Cx} {K : PySem.W.Frag} (hK : X.K = K) (hc : X.calm = true) (hu : X.A.units + 64 < cLine) : CallRK X (.builtin "max") [Str.ofString "default"] (rMxD K) := by
  subst hK
  intro pins s σ H vs zs us ws Q I r rz h
  obtain ⟨a, ns, d, rfl, rfl, hs, q⟩ := h
  obtain rfl := Vals.ref1 r
  obtain ⟨w1, rfl, t, rfl⟩ := vals1 rz
  obtain ⟨its, rv, hl, hz⟩ := I.list hs
  refine PySem.W.max_list_datum_default (α := Int) (I.ok.hd hc) hl.isList (hold_ints rv) (by show X.A.units + 1 + 0 < cLine; omega) (fun e h' tk k => ⟨.int d, H, I.kept (t' := tk) k, ⟨t, rfl⟩, ?_⟩) fun y ys i v h' tk e hi hh k => ?_
  · subst e; exact q
  · subst e
    obtain ⟨t', rfl⟩ := PySem.W.int_of_holds hh
    exact ⟨.int _, H, I.kept (t' := tk) k, ⟨t', rfl⟩, q⟩
theorem zmnD {X : Cx} {K : PySem.W.Frag} (hK : X.K = K) (hc : X.calm = true) (hu : X.A.units + 64 < cLine) : CallRK X (.builtin "min") [Str.ofString "default"] (rMnD K) := by
  subst hK
  intro pins s σ H vs zs us ws Q I r rz h
  obtain ⟨a, ns, d, rfl, rfl, hs, q⟩ := h
  obtain rfl := Vals.ref1 r
  obtain ⟨w1, rfl, t, rfl⟩ := vals1 rz
  obtain ⟨its, rv, hl, hz⟩ := I.list hs
  refine PySem.W.min_list_datum_default (α := Int) (I.ok.hd hc) hl.isList (hold_ints rv) (by show X.A.units + 1 + 0 < cLine; omega) (fun e h' tk k => ⟨.int d, H, I.kept (t' := tk) k, ⟨t, rfl⟩, ?_⟩) fun y ys i v h' tk e hi hh k => ?_
  · subst e; exact q
  · subst e
    obtain ⟨t', rfl⟩ := PySem.W.int_of_holds hh
    exact ⟨.int _, H, I.kept (t' := tk) k, ⟨t', rfl⟩, q⟩
theorem y_ckw {r : List V → List V → Hp → VK → Prop} {ts tk : TA} (k : ts σ H fun vs H1 => tk σ H1 fun zs H2 => r vs zs H2 Q) : tCKw r ts tk σ H Q := k
theorem y_mxD {xs : List Int} {a : Int} (d : LV K rs Ho v xs) (z : Zs rs H Ho) (k : Q (.int (mxD xs a)) H) : rMxD K [v] [.int a] H Q := by
  obtain ⟨p, vs, rfl, d, s⟩ := LV.rd d z
  rw [dl_ints d] at s
  exact ⟨p, xs, a, rfl, rfl, s, k⟩
theorem y_mnD {xs : List Int} {a : Int} (d : LV K rs Ho v xs) (z : Zs rs H Ho) (k : Q (.int (mnD xs a)) H) : rMnD K [v] [.int a] H Q := by
  obtain ⟨p, vs, rfl, d, s⟩ := LV.rd d z
  rw [dl_ints d] at s
  exact ⟨p, xs, a, rfl, rfl, s, k⟩
/-- min, max of a list that is not empty -/
def mxL (xs : List Int) : W Int := W.guard (0 < xs.length) (W.ret (mxD xs 0))
def mnL (xs : List Int) : W Int := W.guard (0 < xs.length) (W.ret (mnD xs 0))
theorem mxF : ∀ (xs : List Int) (x : Int), (xs.foldl (fun a y => if decide (a < y) = true then y else a) x) ∈ x :: xs ∧ ∀ y ∈ x :: xs, y ≤ xs.foldl (fun a y => if decide (a < y) = true then y else a) x
  | [], x => by simp
  | y :: ys, x => by
    have ih := mxF ys (if decide (x < y) = true then y else x)
    simp only [List.foldl_cons]
    generalize hr : ys.foldl (fun a y => if decide (a < y) = true then y else a) (if decide (x < y) = true then y else x) = r at ih
    obtain ⟨h1, h2⟩ := ih
    by_cases c : x < y
    · simp only [decide_eq_true c, if_true] at h1 h2
      refine ⟨List.mem_cons_of_mem _ h1, fun z hz => ?_⟩
      rcases List.mem_cons.mp hz with rfl | hz
      · have := h2 y List.mem_cons_self; omega
      · exact h2 z hz
    · simp only [decide_eq_false c, Bool.false_eq_true, if_false] at h1 h2
      refine ⟨?_, fun z hz => ?_⟩
      · rcases List.mem_cons.mp h1 with h | h
        · rw [h]; exact List.mem_cons_self
        · exact List.mem_cons_of_mem _ (List.mem_cons_of_mem _ h)
      · rcases List.mem_cons.mp hz with rfl | hz
        · exact h2 _ List.mem_cons_self
        · rcases List.mem_cons.mp hz with rfl | hz
          · have := h2 x List.mem_cons_self; omega
          · exact h2 z (List.mem_cons_of_mem _ hz)
theorem mnF : ∀ (xs : List Int) (x : Int), (xs.foldl (fun a y => if decide (y < a) = true then y else a) x) ∈ x :: xs ∧ ∀ y ∈ x :: xs, xs.foldl (fun a y => if decide (y < a) = true then y else a) x ≤ y
  | [], x => by simp
  | y :: ys, x => by
    have ih := mnF ys (if decide (y < x) = true then y else x)
    simp only [List.foldl_cons]
    generalize hr : ys.foldl (fun a y => if decide (y < a) = true then y else a) (if decide (y < x) = true then y else x) = r at ih
    obtain ⟨h1, h2⟩ := ih
    by_cases c : y < x
    · simp only [decide_eq_true c, if_true] at h1 h2
      refine ⟨List.mem_cons_of_mem _ h1, fun z hz => ?_⟩
      rcases List.mem_cons.mp hz with rfl | hz
      · have := h2 y List.mem_cons_self; omega
      · exact h2 z hz
    · simp only [decide_eq_false c, Bool.false_eq_true, if_false] at h1 h2
      refine ⟨?_, fun z hz => ?_⟩
      · rcases List.mem_cons.mp h1 with h | h
        · rw [h]; exact List.mem_cons_self
        · exact List.mem_cons_of_mem _ (List.mem_cons_of_mem _ h)
      · rcases List.mem_cons.mp hz with rfl | hz
        · exact h2 _ List.mem_cons_self
        · rcases List.mem_cons.mp hz with rfl | hz
          · have := h2 x List.mem_cons_self; omega
          · exact h2 z (List.mem_cons_of_mem _ hz)
theorem y_mxL {xs : List Int} (d : LV K rs Ho v xs) (z : Zs rs H Ho) (hg : 0 < xs.length) (k : Q (.int (mxD xs 0)) H) : rMax K [v] H Q := by
  obtain ⟨p, vs, rfl, d, s⟩ := LV.rd d z
  rw [dl_ints d] at s
  refine ⟨p, xs, rfl, s, hg, fun m hm hy => ?_⟩
  cases xs with
  | nil => simp at hg
  | cons x xs =>
    have q := mxF xs x
    have e : mxD (x :: xs) 0 = m := Int.le_antisymm (hy _ q.1) (q.2 _ hm)
    rw [← e]; exact k
theorem y_mnL {xs : List Int} (d : LV K rs Ho v xs) (z : Zs rs H Ho) (hg : 0 < xs.length) (k : Q (.int (mnD xs 0)) H) : rMin K [v] H Q := by
  obtain ⟨p, vs, rfl, d, s⟩ := LV.rd d z
  rw [dl_ints d] at s
  refine ⟨p, xs, rfl, s, hg, fun m hm hy => ?_⟩
  cases xs with
  | nil => simp at hg
  | cons x xs =>
    have q := mnF xs x
    have e : mnD (x :: xs) 0 = m := Int.le_antisymm (q.2 _ hm) (hy _ q.1)
    rw [← e]; exact k
end
end Z

/-! # sorted lists of tuples of ints, any number of them -/
namespace Z
open PySem PySem.Spec PyProof.Rows L2
theorem DL.item {α : Type} [Py α] {K : PySem.W.Frag} {vs : List V} {xs : List α} {i : Nat} {v : V} {H : Hp} (h : DL K H vs xs) (e : vs[i]? = some v) : ∃ x, xs[i]? = some x ∧ D K H v x := by
  have hi : i < xs.length := by rw [← h.len]; exact (List.getElem?_eq_some_iff.mp e).1
  obtain ⟨w, ew, dw⟩ := h.get (List.getElem?_eq_getElem hi)
  rw [e] at ew
  cases ew
  exact ⟨_, List.getElem?_eq_getElem hi, dw⟩
def lexL : List Int → List Int → Bool
  | [], [] => false
  | [], _ :: _ => true
  | _ :: _, [] => false
  | x :: xs, y :: ys => if x = y then lexL xs ys else decide (x < y)
theorem lexL_asym : ∀ a b : List Int, lexL a b = true → lexL b a = false
  | [], [], h => nomatch h
  | [], _ :: _, _ => rfl
  | _ :: _, [], h => nomatch h
  | x :: xs, y :: ys, h => by
    have h : (if x = y then lexL xs ys else decide (x < y)) = true := h
    show (if y = x then lexL ys xs else decide (y < x)) = false
    by_cases e : x = y
    · rw [if_pos e] at h
      rw [if_pos e.symm]
      exact lexL_asym xs ys h
    · rw [if_neg e] at h
      rw [if_neg (fun q => e q.symm)]
      have := of_decide_eq_true h
      exact decide_eq_false (by omega)
theorem lexL_tr : ∀ a b c : List Int, lexL b a = false → lexL c b = false → lexL c a = false
  | [], b, c, _, h2 => by
    cases c with
    | nil => rfl
    | cons z zs => rfl
  | x :: xs, [], c, h1, _ => nomatch h1
  | x :: xs, y :: ys, [], _, h2 => nomatch h2
  | x :: xs, y :: ys, z :: zs, h1, h2 => by
    have h1 : (if y = x then lexL ys xs else decide (y < x)) = false := h1
    have h2 : (if z = y then lexL zs ys else decide (z < y)) = false := h2
    show (if z = x then lexL zs xs else decide (z < x)) = false
    by_cases e1 : y = x
    · subst e1
      rw [if_pos rfl] at h1
      by_cases e2 : z = y
      · rw [if_pos e2] at h2 ⊢
        exact lexL_tr xs ys zs h1 h2
      · rw [if_neg e2] at h2 ⊢
        exact h2
    · rw [if_neg e1] at h1
      have q1 := of_decide_eq_false h1
      by_cases e2 : z = y
      · subst e2
        rw [if_neg e1]; exact h1
      · rw [if_neg e2] at h2
        have q2 := of_decide_eq_false h2
        rw [if_neg (by omega)]
        exact decide_eq_false (by omega)
theorem lexL_tot : ∀ a b : List Int, lexL a b = false → lexL b a = false → a = b
  | [], [], _, _ => rfl
  | [], _ :: _, h, _ => nomatch h
  | _ :: _, [], _, h => nomatch h
  | x :: xs, y :: ys, h1, h2 => by
    have h1 : (if x = y then lexL xs ys else decide (x < y)) = false := h1
    have h2 : (if y = x then lexL ys xs else decide (y < x)) = false := h2
    by_cases e : x = y
    · subst e
      rw [if_pos rfl] at h1 h2
      rw [lexL_tot xs ys h1 h2]
    · rw [if_neg e] at h1
      rw [if_neg (fun q => e q.symm)] at h2
      have := of_decide_eq_false h1
      have := of_decide_eq_false h2
      omega
section
variable {prog : Program} {w : World} {A : Around} {E : Value → Shared → Prop} {s : Shared}
theorem kat_lexL {b : Bool} {ps qs : List Value} {is js : List Int} (n : Nat) (hp : IntsAre ps is) (hq : IntsAre qs js) (he : is.length = js.length) : PySem.W.KatLex prog w A b false (fun r t => t = s ∧ r = lexL is js) (ps.zip qs) n s := by
  induction hp generalizing qs js n with
  | nil =>
    cases hq with
    | nil => exact PySem.W.kat_nil ⟨rfl, rfl⟩
    | cons q u hq => simp at he
  | @cons i t ps is hp ih =>
    cases hq with
    | nil => simp at he
    | @cons j u qs js hq =>
      show PySem.W.KatLex prog w A b false _ ((Value.int i t, Value.int j u) :: ps.zip qs) n s
      refine PySem.W.kat_cons (wpAny_eqBool_int ?_)
      have el : lexL (i :: is) (j :: js) = if i = j then lexL is js else decide (i < j) := rfl
      by_cases e : i = j
      · subst e
        rw [if_pos rfl] at el
        rw [beq_self_eq_true, el]
        exact PySem.W.kat_yes (ih (n + 1) hq (by simpa using he))
      · rw [if_neg e] at el
        rw [show (i == j) = false from beq_eq_false_iff_ne.mpr e, el]
        exact PySem.W.kat_no (TS.oneLt_ints _ ⟨rfl, rfl⟩)
theorem tups_cmp {us : List Value} {k : Value → List Int} {d : Nat} (hp : ∀ v ∈ us, TS.TupInts s.heap v (k v) ∧ (k v).length = d) : SrtO.Cmp prog w A s (tuples' true) (fun p => p.1 ∈ us) (SrtO.lt2 fun v u => lexL (k v) (k u)) := by
  intro p q h1 h2
  obtain ⟨⟨a, xs, ea, ⟨o, ho, _, n, hd⟩, ia⟩, la⟩ := hp _ h1
  obtain ⟨⟨b, ys, eb, ⟨u, hu, _, m, hm⟩, ib⟩, lb⟩ := hp _ h2
  show wpAny (model prog w) A (keyLt' (tuples' true) p.1 q.1) (fun r t => t = s ∧ r = lexL (k p.1) (k q.1)) (fun _ _ => False) s
  have sz : xs.size = ys.size := by
    have q1 := ia.length
    have q2 := ib.length
    rw [Array.length_toList] at q1 q2
    omega
  generalize k p.1 = kp at ia la ⊢
  generalize k q.1 = kq at ib lb ⊢
  rw [ea, eb]
  refine PySem.W.kat_lt ho hd hu hm ?_
  rw [show decide (xs.size < ys.size) = false from decide_eq_false (by omega)]
  exact kat_lexL 0 ia ib (by omega)
theorem tups_firsts {h : Heap} {k : Value → List Int} {d : Nat} (h1 : 1 ≤ d) : ∀ us : List Value, (∀ v ∈ us, TS.TupInts h v (k v) ∧ (k v).length = d) → ∃ fs, PySem.W.KatTups h us fs ∧ fs.length = us.length ∧ ∀ f ∈ fs, ∃ i t, f = Value.int i t
  | [], _ => ⟨[], .nil, rfl, fun _ m => nomatch m⟩
  | v :: us, x => by
    obtain ⟨fs, kt, hl, hi⟩ := tups_firsts h1 us fun u hu => x u (List.mem_cons_of_mem _ hu)
    obtain ⟨⟨a, xs, ea, ⟨o, ho, hc, n, hdt⟩, ia⟩, la⟩ := x v List.mem_cons_self
    obtain ⟨ys⟩ := xs
    cases ys with
    | nil =>
      have l := ia.length
      rw [la] at l
      have l : 0 = d := l
      omega
    | cons y ys =>
      obtain ⟨m, t, hy⟩ := ia.all y List.mem_cons_self
      subst ea
      refine ⟨y :: fs, .cons ho hc hdt rfl kt, by simp [hl], fun f hf => ?_⟩
      rcases List.mem_cons.mp hf with rfl | hf
      · exact ⟨m, t, hy⟩
      · exact hi f hf
theorem tups_sortable {a : Addr} {us : List Value} {k : Value → List Int} {d : Nat} (h1 : 1 ≤ d) (h0 : 0 < us.length) (hp : ∀ v ∈ us, TS.TupInts s.heap v (k v) ∧ (k v).length = d) (ha : ∀ o, s.heap.get? a = some o → o.cls ≠ .type "tuple") :
    SrtO.SortableO prog w A s a us fun v u => lexL (k v) (k u) := by
  intro h' keep
  have hp' : ∀ v ∈ us, TS.TupInts h' v (k v) ∧ (k v).length = d := fun v m => ⟨(hp v m).1.keeps fun b o e c => keep b o (fun z => by subst z; exact ha o e c) e, (hp v m).2⟩
  obtain ⟨fs, q1, q2, q3⟩ := tups_firsts h1 us hp'
  refine ⟨tuples' true, fun Q E hq => ?_, tups_cmp hp'⟩
  refine PySem.W.kat_kind (T := .type "int") q1 (by omega) (fun f m => ?_) (by rfl) ?_
  · obtain ⟨x, t, rfl⟩ := q3 f m
    exact PySem.W.Looks.now
  · rw [show (Value.type "int" != Value.type "tuple") = true from by decide +kernel]
    exact hq
theorem swoL {α : Type} (k : α → List Int) : SrtO.Swo fun v u => lexL (k v) (k u) := ⟨fun x y => lexL_asym _ _, fun x y z => lexL_tr _ _ _⟩
end
/-- sorted(xs), xs a list of tuples of d ints -/
def rSortedL (K : PySem.W.Frag) (d : Nat) : List V → Hp → VK → Prop := fun vs H Q => ∃ (a : Addr) (xs : List V), vs = [V.ref a] ∧ SqL K H a xs ∧ (∀ x ∈ xs, ∃ ns, TupI K H x ns ∧ ns.length = d) ∧
  ∀ (ys : List V) (p : Addr), ys.Perm xs → ys.Pairwise (fun x y => ∀ n m, TupI K H x n → TupI K H y m → lexL m n = false) → H p = none → Q (.ref p) (upd H p (.lst ys))
theorem zsorted {X : Cx} {K : PySem.W.Frag} {d : Nat} (hK : X.K = K) (h1 : 1 ≤ d) : CallR X (.builtin "sorted") (rSortedL K d) := by
  subst hK
  intro pins s σ H vs us Q I r h
  obtain ⟨a, xs, rfl, hs, hx, q⟩ := h
  obtain ⟨its, rv, hl, hz⟩ := I.list hs
  rw [Vals.ref1 r]
  obtain ⟨e1, e2⟩ := bkV_refs rv fun x m => by
    obtain ⟨ns, ⟨t, e, _⟩, _⟩ := hx x m
    exact ⟨t, e⟩
  have raw : ∀ v ∈ its, TS.TupInts s.heap v (TS.intsOf s.heap v) ∧ (TS.intsOf s.heap v).length = d := by
    intro v hv
    obtain ⟨t, rfl⟩ := e2 v hv
    have hm : V.ref t ∈ xs := by rw [e1]; exact List.mem_map.mpr ⟨_, hv, rfl⟩
    obtain ⟨ns, ⟨t', e, ht⟩, hn⟩ := hx _ hm
    cases e
    have q1 := tupI_raw I ht
    rw [q1.ints]
    exact ⟨q1, hn⟩
  refine SrtO.sorted_ord (ltv := fun v u => lexL (TS.intsOf s.heap v) (TS.intsOf s.heap u)) (swoL _) hl.isList (by rw [← rv.length]; exact hz) (fun h2 h₁ b hb kk => ?_) fun out o1 o2 => ?_
  · refine tups_sortable (s := { s with heap := h₁ }) (k := TS.intsOf s.heap) h1 (by omega) (fun v hm => ⟨(raw v hm).1.keeps fun c o e _ => (kk c o e).2, (raw v hm).2⟩) fun o e => ?_
    have e' := e.symm.trans hb
    cases e'
    exact fun c => absurd (Value.type.inj c) (by decide)
  · have h3 : ∀ u ∈ out, ∃ b, u = Value.ref b := fun u hu => e2 u (o2.perm.mem_iff.mp hu)
    obtain ⟨n, hn⟩ := PyProof.Rows.sortedAll_at s.heap its out.toArray
    have hpm : (out.map bkV).Perm xs := by rw [e1]; exact o2.perm.map _
    refine ⟨.ref (s.heap.objs.size + 1), upd H (s.heap.objs.size + 1) (.lst (out.map bkV)), I.laid (t' := s.toks) (fun b o e => PyProof.Rows.sortedAll_old e) (Nat.le_succ _) ⟨?_, out, n, bkV_vals h3, hn⟩, rfl, q _ _ hpm ?_ (I.hok.fresh (Nat.le_succ _))⟩
    · rw [hpm.length_eq]; exact hz
    · rw [List.pairwise_map]
      refine List.Pairwise.imp (fun {u v} huv nn mm h4 h5 => ?_) o1
      obtain ⟨t1, g1, k1⟩ := h4
      obtain ⟨t2, g2, k2⟩ := h5
      have w1 := tupI_raw I k1
      have w2 := tupI_raw I k2
      rw [← bkV_ref g1] at w1
      rw [← bkV_ref g2] at w2
      rw [← w1.ints, ← w2.ints]
      exact huv
/-! ### by data -/
class Ktup (α : Type) [Py α] where
  key : α → List Int
  d : Nat
  pos : 1 ≤ d
  len : ∀ x, (key x).length = d
  py : ∀ x : α, toPy x = .tuple ((key x).map PyData.int)
  inj : ∀ x y, key x = key y → x = y
instance : Ktup (Int × Int) := ⟨fun x => [x.1, x.2], 2, by decide, fun _ => rfl, fun _ => rfl, fun x y h => by
  obtain ⟨a, b⟩ := x
  obtain ⟨c, d⟩ := y
  simpa using h⟩
instance : Ktup (P3 Int Int Int) := ⟨fun x => [x.a, x.b, x.c], 3, by decide, fun _ => rfl, fun _ => rfl, fun x y h => by
  obtain ⟨a, b, c⟩ := x
  obtain ⟨d, e, f⟩ := y
  simpa using h⟩
instance : Ktup (P4 Int Int Int Int) := ⟨fun x => [x.a, x.b, x.c, x.d], 4, by decide, fun _ => rfl, fun _ => rfl, fun x y h => by
  obtain ⟨a, b, c, d⟩ := x
  obtain ⟨e, f, g, i⟩ := y
  simpa using h⟩
section
variable {α : Type} [Py α] [Ktup α] {K : PySem.W.Frag} {H Ho : Hp}
def leK (x y : α) : Bool := !lexL (Ktup.key y) (Ktup.key x)
def srtK (xs : List α) : List α := xs.mergeSort leK
theorem leK_tr (x y z : α) (h1 : leK x y = true) (h2 : leK y z = true) : leK x z = true := by
  unfold leK at *
  simp only [Bool.not_eq_true'] at *
  exact lexL_tr _ _ _ h1 h2
theorem leK_tot (x y : α) : (leK x y || leK y x) = true := by
  unfold leK
  cases h : lexL (Ktup.key y) (Ktup.key x) with
  | false => rfl
  | true => rw [lexL_asym _ _ h]; rfl
theorem leK_anti (x y : α) (h1 : leK x y = true) (h2 : leK y x = true) : x = y := by
  unfold leK at *
  simp only [Bool.not_eq_true'] at *
  exact Ktup.inj _ _ (lexL_tot _ _ h2 h1)
theorem srt_uniq : ∀ {l m : List α}, l.Perm m → l.Pairwise (fun x y => leK x y = true) → m.Pairwise (fun x y => leK x y = true) → l = m
  | [], m, hp, _, _ => (List.Perm.nil_eq hp)
  | x :: l, [], hp, _, _ => absurd hp.length_eq (by simp)
  | x :: l, y :: m, hp, h1, h2 => by
    have e : x = y := by
      rcases List.mem_cons.mp (hp.mem_iff.mp (List.mem_cons_self (a := x) (l := l))) with e | hx
      · exact e
      rcases List.mem_cons.mp (hp.mem_iff.mpr (List.mem_cons_self (a := y) (l := m))) with e | hy
      · exact e.symm
      exact leK_anti x y ((List.pairwise_cons.mp h1).1 y hy) ((List.pairwise_cons.mp h2).1 x hx)
    subst e
    rw [srt_uniq hp.cons_inv (List.pairwise_cons.mp h1).2 (List.pairwise_cons.mp h2).2]
theorem srtK_perm (xs : List α) : (srtK xs).Perm xs := List.mergeSort_perm xs leK
theorem srtK_srt (xs : List α) : (srtK xs).Pairwise (fun x y => leK x y = true) := List.pairwise_mergeSort leK_tr leK_tot xs
theorem srtK_of {xs ys : List α} (h : ys.Perm xs) (hs : ys.Pairwise (fun x y => leK x y = true)) : ys = srtK xs := srt_uniq (h.trans (srtK_perm xs).symm) hs (srtK_srt xs)
theorem srtK_eq {xs ys : List α} (h : ys.Perm xs) : srtK ys = srtK xs := srtK_of ((srtK_perm ys).trans h) (srtK_srt ys)
theorem DL.perm {vs us : List V} (hp : us.Perm vs) : ∀ {xs : List α}, DL K H vs xs → ∃ ys, ys.Perm xs ∧ DL K H us ys := by
  induction hp with
  | nil => exact fun {xs} h => ⟨xs, List.Perm.refl _, h⟩
  | cons v _ ih =>
    intro xs h
    cases xs with
    | nil => cases h
    | cons x xs =>
      cases h with
      | cons h1 h2 =>
        obtain ⟨ys, p, q⟩ := ih h2
        exact ⟨x :: ys, p.cons x, .cons h1 q⟩
  | swap u v l =>
    intro xs h
    cases xs with
    | nil => cases h
    | cons x xs =>
      cases xs with
      | nil => cases h with | cons _ h2 => cases h2
      | cons y xs =>
        cases h with
        | cons h1 h2 =>
          cases h2 with
          | cons h2 h3 => exact ⟨y :: x :: xs, List.Perm.swap _ _ _, .cons h2 (.cons h1 h3)⟩
  | trans _ _ ih1 ih2 =>
    intro xs h
    obtain ⟨ys, p, q⟩ := ih2 h
    obtain ⟨zs, p2, q2⟩ := ih1 q
    exact ⟨zs, p2.trans p, q2⟩
theorem dints_all : ∀ {vs : List V} {is : List Int}, DqAll K H vs (is.map PyData.int) → vs = is.map V.int
  | vs, [], h => by cases h; rfl
  | vs, i :: is, h => by
    cases h with
    | cons h1 h2 =>
      cases h1
      rw [dints_all h2]; rfl
theorem tupI_of {v : V} {x : α} (h : D K H v x) : TupI K H v (Ktup.key x) := by
  have h : Dq K H v (toPy x) := h
  rw [Ktup.py] at h
  cases h with
  | tup hs ha =>
    rw [dints_all ha] at hs
    exact ⟨_, rfl, SqT.of hs⟩
theorem dl_pw {us : List V} : ∀ {ys : List α}, DL K H us ys → us.Pairwise (fun x y => ∀ n m, TupI K H x n → TupI K H y m → lexL m n = false) → ys.Pairwise (fun x y => leK x y = true) := by
  induction us with
  | nil =>
    intro ys h _
    cases ys with
    | nil => exact .nil
    | cons y ys => cases h
  | cons u us ih =>
    intro ys h hp
    cases ys with
    | nil => cases h
    | cons y ys =>
      cases h with
      | cons h1 h2 =>
        obtain ⟨p1, p2⟩ := List.pairwise_cons.mp hp
        refine List.pairwise_cons.mpr ⟨fun z hz => ?_, ih h2 p2⟩
        obtain ⟨i, hi⟩ := List.mem_iff_getElem?.mp hz
        obtain ⟨t, ht, dt⟩ := DL.get h2 hi
        have q := p1 t (List.mem_of_getElem? ht) _ _ (tupI_of h1) (tupI_of dt)
        unfold leK
        rw [q]; rfl
theorem y_sortK {rs : List (Addr × HO)} {v : V} {Q : VK} {xs : List α} (d1 : LV K rs Ho v xs) (z : Zs rs H Ho) (k : ∀ H' p ws, Zs ((p, .lst ws) :: rs) H' Ho → DL K Ho ws (srtK xs) → Q (.ref p) H') : rSortedL K (Ktup.d α) [v] H Q := by
  obtain ⟨p, vs, rfl, d, s⟩ := LV.rd d1 z
  have dH : DL K H vs xs := DL.mo d z.le
  refine ⟨p, vs, rfl, s, fun u hu => ?_, fun us q hp hpw hq => ?_⟩
  · obtain ⟨i, hi⟩ := List.mem_iff_getElem?.mp hu
    obtain ⟨y, hy, dy⟩ := DL.item dH hi
    exact ⟨_, tupI_of dy, Ktup.len y⟩
  · obtain ⟨ys, pe, dy⟩ := DL.perm hp d
    have dyH : DL K H us ys := DL.mo dy z.le
    have e : ys = srtK xs := srtK_of pe (dl_pw dyH hpw)
    subst e
    exact k _ q us (z.root hq) dy
end
section
variable {K : PySem.W.Frag} {rs : List (Addr × HO)} {H Ho : Hp} {α β γ δ : Type} [Py α] [Py β] [Py γ] [Py δ] {v u : V} {Q : VK}
theorem y_cat22 {a : α × β} {b : γ × δ} (d1 : D K Ho v a) (d2 : D K Ho u b) (z : Zs rs H Ho) (k : ∀ p H' Ho', Same Ho Ho' → Zs rs H' Ho' → D K Ho' (.ref p) (⟨a.1, a.2, b.1, b.2⟩ : P4 α β γ δ) → Q (.ref p) H') : rCatT K v u H Q := by
  cases d1 with
  | tup hs ha =>
    cases d2 with
    | tup ht hb =>
      cases ha with
      | cons a1 a2 =>
        cases a2 with
        | cons a2 a3 =>
          cases a3
          cases hb with
          | cons b1 b2 =>
            cases b2 with
            | cons b2 b3 =>
              cases b3
              refine ⟨_, _, _, _, rfl, rfl, SqT.of (z.le _ _ hs), SqT.of (z.le _ _ ht), by simp, by show 4 ≤ sizeLine; decide, fun e => (nomatch e), fun _ q hq => ?_⟩
              exact k _ _ _ (Same.new (z.free hq)) (z.alloc hq) (.tup upd_same (.cons (dp_mono (Same.new (z.free hq)) _ _ a1) (.cons (dp_mono (Same.new (z.free hq)) _ _ a2) (.cons (dp_mono (Same.new (z.free hq)) _ _ b1) (.cons (dp_mono (Same.new (z.free hq)) _ _ b2) .nil)))))
end
theorem zop_catT {X : Cx} {K : PySem.W.Frag} (hK : X.K = K) : OpR X (binaryOp .Add) (rCatT K) := hK ▸ op_catT
end Z

/-! # Y4: the machine's rules, the written part by its own letter; isinstance -/
namespace Z
open PySem PySem.Spec PyProof.Rows L2
section
variable {α : Type} [Py α]
/-! ### isinstance: the kind is known -/
class Kin (β : Type) [Py β] where
  ty : String
  ok : ∀ {K : PySem.W.Frag} {H : Hp} {v : V} {x : β}, D K H v x → TyX K H v (.type ty)
theorem tyx_list {K : PySem.W.Frag} {H : Hp} {p : Addr} {vs : List V} (h : SqL K H p vs) : TyX K H (.ref p) (.type "list") := by
  rcases h with (h | ⟨o, h⟩) | ⟨o, its, n, h, hc, _⟩
  · exact .base (.lst h)
  · exact .base (.frz h)
  · exact .kList h hc
theorem tyx_tup {K : PySem.W.Frag} {H : Hp} {p : Addr} {vs : List V} (h : SqT K H p vs) : TyX K H (.ref p) (.type "tuple") := by
  rcases h with (h | ⟨o, h⟩) | ⟨o, its, n, h, hc, _⟩
  · exact .base (.tup h)
  · exact .fTuple h
  · exact .kTuple h hc
theorem dp_list {K : PySem.W.Frag} {H : Hp} {v : V} {ds : List PyData} (h : Dq K H v (.list ds)) : TyX K H v (.type "list") := by
  cases h with
  | lst hs _ => exact tyx_list hs
theorem dp_tup {K : PySem.W.Frag} {H : Hp} {v : V} {ds : List PyData} (h : Dq K H v (.tuple ds)) : TyX K H v (.type "tuple") := by
  cases h with
  | tup hs _ => exact tyx_tup (SqT.of hs)
instance : Kin Int := ⟨"int", fun d => by rw [d_int d]; exact .base (.int _)⟩
instance : Kin Bool := ⟨"bool", fun d => by rw [d_bool d]; exact .base (.bl _)⟩
instance : Kin Str := ⟨"str", fun d => by rw [d_str d]; exact .base (.str _)⟩
instance : Kin Unit := ⟨"NoneType", fun d => by cases d; exact .base .non⟩
instance : Kin (List α) := ⟨"list", fun d => dp_list d⟩
instance : Kin (Tp α) := ⟨"tuple", fun d => dp_tup d⟩
instance {β γ : Type} [Py β] [Py γ] : Kin (β × γ) := ⟨"tuple", fun d => dp_tup d⟩
instance {β γ δ : Type} [Py β] [Py γ] [Py δ] : Kin (P3 β γ δ) := ⟨"tuple", fun d => dp_tup d⟩
instance {β γ δ ε : Type} [Py β] [Py γ] [Py δ] [Py ε] : Kin (P4 β γ δ ε) := ⟨"tuple", fun d => dp_tup d⟩
section
variable {K : PySem.W.Frag} {H : Hp} {v : V} {Q : VK} {σ : L2.St}
theorem y_isi {β : Type} [Py β] [Kin β] {x : β} {T : String} {b : Bool} (d : D K H v x) (hb : kitB (Kin.ty β) T = some b) (k : Q (.bl b) H) : rIsi K [v, .ty T] H Q :=
  ⟨v, .ty T, _, .type T, b, rfl, .ty T, Kin.ok d, kit_ty hb, k⟩
theorem y_isiO {β : Type} [Py β] [Kin β] {x : Option β} {T : String} {b b' : Bool} (d : D K H v x) (hb : kitB (Kin.ty β) T = some b) (hb' : kitB "NoneType" T = some b') (k : Q (.bl (if x.isSome then b else b')) H) : rIsi K [v, .ty T] H Q := by
  cases x with
  | none =>
    cases d
    exact ⟨_, .ty T, _, .type T, b', rfl, .ty T, .base .non, kit_ty hb', k⟩
  | some x => exact ⟨v, .ty T, _, .type T, b, rfl, .ty T, Kin.ok (x := x) d, kit_ty hb, k⟩
end
end
section
variable {X : Cx} {K : PySem.W.Frag}
theorem zix_list (hK : X.K = K) : IxR X (rIxL K) := hK ▸ ix_list
theorem zix_tup (hK : X.K = K) : IxR X (rIxT K) := hK ▸ ix_tup
theorem zget_list (hK : X.K = K) : PGet X (rIxL K) := hK ▸ get_list
theorem zsl_list (hK : X.K = K) : SlR X (rSlL K) := hK ▸ sl_list
theorem zop_catS (hK : X.K = K) : OpR X (binaryOp .Add) (rCatS K) := hK ▸ op_catS
theorem zop_eqD (hK : X.K = K) (hu : X.A.units + 64 < cLine) : OpR X (compareOp .Eq) (rEqD K) := hK ▸ op_eqD hu
theorem zop_neD (hK : X.K = K) (hu : X.A.units + 64 < cLine) : OpR X (compareOp .NotEq) (rNeD K) := hK ▸ op_neD hu
theorem zlen (hK : X.K = K) : CallR X (.builtin "len") (rLenZ K) := hK ▸ call_len_seq
theorem zlist (hK : X.K = K) : CallR X (.type "list") (rListZ K) := hK ▸ call_list_of
theorem zisi (hK : X.K = K) : CallR X (.builtin "isinstance") (rIsi K) := hK ▸ call_isi
theorem zall (hK : X.K = K) (hc : X.calm = true) : CallR X (.builtin "all") (rAll K) := hK ▸ cr_all hc
theorem zany (hK : X.K = K) (hc : X.calm = true) : CallR X (.builtin "any") (rAny K) := hK ▸ cr_any hc
theorem zpi_list {tg l : Expr} {tl : TE} (hK : X.K = K) (hl : PE X l tl) : PI X tg l (iList K tl) := hK ▸ pi_list hl
theorem zpi_tup {tg l : Expr} {tl : TE} (hK : X.K = K) (hl : PE X l tl) : PI X tg l (iTup K tl) := hK ▸ pi_tup hl
theorem zsum (hK : X.K = K) (hc : X.calm = true) : CallR X (.builtin "sum") (rSum K) := hK ▸ cr_sum hc
theorem zsortI (hK : X.K = K) : CallR X (.builtin "sorted") (rSortedI K) := hK ▸ cr_sortedI
theorem zop_inD (hK : X.K = K) (hu : X.A.units + 65 < cLine) : OpR X (compareOp .In) (rInD K) := hK ▸ op_inD hu
theorem zop_notInD (hK : X.K = K) (hu : X.A.units + 65 < cLine) : OpR X (compareOp .NotIn) (rNotInD K) := hK ▸ op_notInD hu
end
theorem zpg_tup {X : Cx} {K : PySem.W.Frag} {es : List Expr} {k : Nat} {t : TGs} {n : Nat} {pos : Pos} (hK : X.K = K) (hc : X.calm = true) (h : PGs X es t)
    (hn : (assignEach es X.env).length = n := by rfl) (hst : (assignEach es X.env).findIdx? (·.1) = none := by rfl) : PG X (.Tuple es k pos) (gTup K n t) := hK ▸ pg_tup hc h hn hst
/-- a def that stands at f under the name x -/
structure Cal (P : Program) (w : World) (K : PySem.W.Frag) (mg : Str → Option Value) (base : Heap) (CX : CXT) (x : Str) (ps : List Str) (k : Nat) (sp : Sp) (f : Addr) (fd : FuncData) : Prop where
  ok : FnOk P w K mg base CX k f fd ps sp
  g : mg x = some (.ref f)
  kp : PySem.W.keepIn K (.ref f) = true
  b : Binds K fd ps []
section
variable {X : Cx} {K : PySem.W.Frag} {x n m : Str} {c : Value} {C : Addr} {i : Nat} {body suite : List Stmt} {b₀ : Stmt} {p p2 np pos pos' : Pos} {j : Nat} {tb : WX → TS} {ts : Addr → Value → Option Addr → TS} {W Wout : WX} {bmB : List Value} {B newId initId : String}
theorem zps_try_as (hK : X.K = K) (hs : X.stack = X.env :: X.outer) (hf : X.env.frame = some X.env.locals) (hN : X.N.Nodup) (hi : X.N[i]? = some n) (hln : X.env.kindOf n = some .local) (hc : Names X x c) (tk : Takes X Wout)
    (hb : ∀ (W : WX) (pn : List (Addr × Obj)) (xe : Value → Shared → Prop), Takes (X.tr pn xe) W → PassesOwn (model X.prog X.w) X.A X.env xe → PSs (X.tr pn xe) body (tb W))
    (hsu : ∀ (a : Addr) (oe : Obj) (cls : Value) (d : Option Addr) (pn : List (Addr × Obj)), Zc cls d oe → (∃ vs, oe.data = .fields vs) → PSs (X.suite a ((a, oe) :: pn)) (b₀ :: suite) (ts a cls d)) :
    PS X (.Try body [.ExceptHandler (some (.Name x np)) (some n) (b₀ :: suite) pos'] [] [] pos) (tTryAs K c i tb ts Wout) := hK ▸ ps_try_as hs hf hN hi hln hc tk hb hsu
theorem zps_try_only (hK : X.K = K) (hs : X.stack = X.env :: X.outer) (hf : X.env.frame = some X.env.locals) (hc : Names X x c) (tk : Takes X Wout)
    (hb : ∀ (W : WX) (pn : List (Addr × Obj)) (xe : Value → Shared → Prop), Takes (X.tr pn xe) W → PassesOwn (model X.prog X.w) X.A X.env xe → PSs (X.tr pn xe) body (tb W))
    (hsu : ∀ (a : Addr) (oe : Obj) (cls : Value) (d : Option Addr) (pn : List (Addr × Obj)), Zc cls d oe → (∃ vs, oe.data = .fields vs) → PSs (X.suite a ((a, oe) :: pn)) (b₀ :: suite) (ts a cls d)) :
    PS X (.Try body [.ExceptHandler (some (.Name x np)) none (b₀ :: suite) pos'] [] [] pos) (tTryOnly K c tb ts Wout) := hK ▸ ps_try_only hs hf hc tk hb hsu
theorem zps_raise (hK : X.K = K) (hc : X.calm = true) (tk : Takes X W) (q : PySem.W.excIn K C [.type "ValueError", .type "Exception", .type "BaseException", .type "object"] "ValueError.__new__" = true) (gC : X.mg x = some (.ref C)) (kC : PySem.W.keepIn K (.ref C) = true)
    (h1 : PySem.W.subIn K (.ref C) (.type "BaseException") = some true) (h2 : PySem.W.typeIn K (.ref C) = some (.type "type")) (hg : Gl X x) (hdb : (x == ("__debug__" : Str)) = false := by decide) :
    PS X (.Raise (some (.Call (.Name x p) [.Constant (.str m) j p2] [] pos)) none pos') (tRaise C W) := by
  subst hK
  exact ps_raise hc tk (pmk_own PySem.F.excBase_ValueError q gC kC (raises_own h1 h2) hg hdb)
/-- isinstance of the error that the suite holds -/
def rIsX (K : PySem.W.Frag) (a : Addr) (cls : Value) (d : Option Addr) : List V → Hp → VK → Prop := fun xs H Q => ∃ (D : Addr) (c : V) (cv : Value) (b : Bool), cls = .ref D ∧ d = none ∧ xs = [.ref a, c] ∧ ClsV c cv ∧ ExcC K D ∧ PySem.W.kitOne K (.ref D) cv = some b ∧ Q (.bl b) H
def rIsXT (K : PySem.W.Frag) (a : Addr) (cls : Value) (d : Option Addr) : List V → Hp → VK → Prop := fun xs H Q => ∃ (D : Addr) (tp : Addr) (cs : List V) (us : List Value) (b : Bool), cls = .ref D ∧ d = none ∧ xs = [.ref a, .ref tp] ∧ H tp = some (.tup cs) ∧ Paired ClsV cs us ∧ ExcC K D ∧ PySem.W.kitAny K (.ref D) us = some b ∧ Q (.bl b) H
theorem inst_at {X : Cx} {pins : List (Addr × Obj)} {σ : L2.St} {H : Hp} {s : Shared} {a D : Addr} {oe : Obj} {pn : List (Addr × Obj)} (hz : Zc (.ref D) none oe) (hf : ∃ vs, oe.data = .fields vs) (I : Inv (X.suite a ((a, oe) :: pn)) pins σ H s) : PySem.W.InstAt s.heap a oe D none := by
  have hget := (I.pin (a, oe) (List.mem_append.mpr (.inl List.mem_cons_self))).1
  obtain ⟨vs, hv⟩ := hf
  obtain ⟨oc, od, oda, osl⟩ := oe
  obtain ⟨h1, h2⟩ := hz
  dsimp only at h1 h2 hv
  subst h1 h2 hv
  exact ⟨hget, rfl, rfl, trivial⟩
theorem zisX {a : Addr} {cls : Value} {d : Option Addr} {oe : Obj} {pn : List (Addr × Obj)} (hK : X.K = K) (hz : Zc cls d oe) (hf : ∃ vs, oe.data = .fields vs) : CallR (X.suite a ((a, oe) :: pn)) (.builtin "isinstance") (rIsX K a cls d) := by
  subst hK
  intro pins s σ H xs us Q I r h
  obtain ⟨D, c, cv, b, rfl, rfl, rfl, hcv, C, e, q⟩ := h
  obtain ⟨u1, u2, rfl, r1, r2⟩ := vals2 r
  cases (show u1 = Value.ref a from r1)
  have ec := hcv.eq r2
  subst ec
  exact PySem.W.kia_one (PySem.W.handS_kitx_exc C.hg C.hk C.hs C.hd C.ha C.hn C.ht C.hm) I.kIn (inst_at hz hf I) e (fun z => nomatch z) fun tk => ⟨.bl b, H, I.tok tk, rfl, q⟩
theorem zisXT {a : Addr} {cls : Value} {d : Option Addr} {oe : Obj} {pn : List (Addr × Obj)} (hK : X.K = K) (hz : Zc cls d oe) (hf : ∃ vs, oe.data = .fields vs) : CallR (X.suite a ((a, oe) :: pn)) (.builtin "isinstance") (rIsXT K a cls d) := by
  subst hK
  intro pins s σ H xs us Q I r h
  obtain ⟨D, tp, cs, ws, b, rfl, rfl, rfl, hT, k, C, e, q⟩ := h
  obtain ⟨u1, u2, rfl, r1, r2⟩ := vals2 r
  cases (show u1 = Value.ref a from r1)
  cases (show u2 = Value.ref tp from r2)
  obtain ⟨_, its, rv, o, h1, h2, n, h3⟩ := (show ObjOk X.prog X.w H s.heap tp (.tup cs) from I.hok tp _ hT)
  have e3 := ClsV.all k rv
  subst e3
  obtain ⟨oc, od, dt, sl⟩ := o
  simp only at h2 h3
  subst h2 h3
  exact PySem.W.kia_tup (PySem.W.handS_kitx_exc C.hg C.hk C.hs C.hd C.ha C.hn C.ht C.hm) I.kIn (inst_at hz hf I) h1 e (fun z => nomatch z) fun tk => ⟨.bl b, H, I.tok tk, rfl, q⟩
end
section
variable {σ : L2.St} {H : Hp} {K : PySem.W.Frag}
inductive TCs : TA → List V → Prop where
  | nil : TCs tNil []
  | cons {v : V} {vs : List V} {t : TA} (h : TCs t vs) : TCs (tCons (tC v) t) (v :: vs)
theorem TCs.run {t : TA} {vs : List V} (h : TCs t vs) : ∀ {σ : L2.St} {H : Hp} {Q : List V → Hp → Prop}, Q vs H → t σ H Q := by
  induction h with
  | nil => exact fun q => q
  | cons h ih => exact fun q => ih q
theorem y_isX {cl : Nat → Addr} {n : Nat} {a : Addr} {Q : VK} {v : V} {cv : Value} {b : Bool} (xc : ExcC K (cl n)) (k : ClsV v cv) (e : PySem.W.kitOne K (.ref (cl n)) cv = some b) (q : Q (.bl b) H) : rIsX K a (.ref (cl n)) none [.ref a, v] H Q :=
  ⟨cl n, v, cv, b, rfl, rfl, rfl, k, xc, e, q⟩
theorem y_isXT {cl : Nat → Addr} {n : Nat} {a : Addr} {Q : VK} {rs : List (Addr × HO)} {Ho : Hp} {vs : List V} {us : List Value} {b : Bool} {ts : TA} (z : Zs rs H Ho) (xc : ExcC K (cl n)) (ht : TCs ts vs) (k : Paired ClsV vs us) (e : PySem.W.kitAny K (.ref (cl n)) us = some b) (q : ∀ H' Ho', Same Ho Ho' → Zs rs H' Ho' → Q (.bl b) H') (hl : vs.length ≤ sizeLine := by decide) :
    tTup ts σ H fun x H1 => rIsXT K a (.ref (cl n)) none [.ref a, x] H1 Q := by
  refine ht.run ⟨hl, fun p hp => ?_⟩
  have e3 : Same Ho (upd Ho p (.tup vs)) := Same.new (z.free hp)
  exact ⟨cl n, p, vs, us, b, rfl, rfl, rfl, upd_same, k, xc, e, q _ _ e3 (z.alloc hp)⟩
theorem kitAny_or {t c : Value} {cs : List Value} {b r : Bool} (h : PySem.W.kitOne K t c = some b) (hr : PySem.W.kitAny K t cs = some r) : PySem.W.kitAny K t (c :: cs) = some (b || r) := by
  refine kitAny_cons h (fun e => ?_) (fun e => by rw [e]; rfl)
  rw [e]; exact hr
end

section
variable {X : Cx} {K : PySem.W.Frag} {tg e e2 : Expr} {ta : TA} {p pos tpos : Pos} {elts : List Expr} {kk : Nat}
theorem zpi_zip (hK : X.K = K) (hg : Gl X "zip") (hm : X.mg "zip" = none) (ha : PA X [e, e2] ta)
    (hs : starEach [e, e2] X.env = (false, eval e X.env) :: starEach [e2] X.env := by rfl) (hpl : (backTo pos (starEach [e2] X.env)).any (·.1) = false := by rfl) :
    PI X (.Tuple elts kk tpos) (.Call (.Name "zip" p) [e, e2] [] pos) (iZip K ta) := hK ▸ pi_zip hg hm ha hs hpl
theorem zpi_enum (hK : X.K = K) (hg : Gl X "enumerate") (hm : X.mg "enumerate" = none) (ha : PA X [e] ta) (hs : starEach [e] X.env = [(false, eval e X.env)] := by rfl) :
    PI X (.Tuple elts kk tpos) (.Call (.Name "enumerate" p) [e] [] pos) (iEnum K ta) := hK ▸ pi_enum hg hm ha hs
end
theorem zpi_rev {X : Cx} {K : PySem.W.Frag} {tg e : Expr} {ta : TA} {p pos : Pos} (hK : X.K = K) (hg : Gl X "reversed") (hm : X.mg "reversed" = none) (ha : PA X [e] ta) (hs : starEach [e] X.env = [(false, eval e X.env)] := by rfl) : PI X tg (.Call (.Name "reversed" p) [e] [] pos) (iRev K ta) := hK ▸ pi_reversed hg hm ha hs
end Z

/-! # Yg: what is one's own, by groups of roots -/
namespace Z
open PySem PySem.Spec PyProof.Rows L2
abbrev Grp := List (Addr × HO)
/-- groups, in a row, ahead of the rest -/
def rowG (gs : List Grp) (amb : Grp) : Grp := gs.foldr (· ++ ·) amb
theorem rowG_eq (gs : List Grp) (amb : Grp) : rowG gs amb = gs.flatten ++ amb := by
  induction gs with
  | nil => rfl
  | cons g gs ih => show g ++ rowG gs amb = _; rw [ih, List.flatten_cons, List.append_assoc]
theorem mg0 {g R : Grp} : ∀ r ∈ g, r ∈ g ++ R := fun _ h => List.mem_append_left _ h
theorem mgS {g h R : Grp} (k : ∀ r ∈ g, r ∈ R) : ∀ r ∈ g, r ∈ h ++ R := fun r m => List.mem_append_right _ (k r m)
theorem room65 {k : Nat} {A : Around} (r : Room k A) : A.units + 65 < cLine := by have := r.un; omega
theorem mgN {rs : Grp} : ∀ r ∈ ([] : Grp), r ∈ rs := fun _ m => nomatch m
theorem mgE {g : Grp} : ∀ r ∈ g, r ∈ g := fun _ h => h
section
variable {K : PySem.W.Frag} {H Ho H' Ho' : Hp} {rs : Grp}
theorem sel_nodup {α β : Type} (f : α → β) (l : List (List α)) (is : List Nat) (hn : is.Nodup) (h : (l.flatten.map f).Nodup) : ((is.filterMap fun i => l[i]?).flatten.map f).Nodup := by
  rw [List.map_flatten] at h ⊢
  unfold List.Nodup at h ⊢
  rw [List.pairwise_flatten] at h ⊢
  have sub : ∀ g ∈ (is.filterMap fun i => l[i]?), g ∈ l := fun r hr => by
    obtain ⟨i, _, e⟩ := List.mem_filterMap.mp hr
    exact List.mem_of_getElem? e
  refine ⟨fun g hg => ?_, ?_⟩
  · obtain ⟨r, hr, rfl⟩ := List.mem_map.mp hg
    exact h.1 _ (List.mem_map.mpr ⟨r, sub r hr, rfl⟩)
  · rw [List.pairwise_map]
    have h2 := h.2
    rw [List.pairwise_map] at h2
    refine List.Pairwise.filterMap _ (fun i j hij a ha b hb => ?_) hn
    rw [List.pairwise_iff_getElem] at h2
    have hl1 := (List.getElem?_eq_some_iff.mp ha)
    have hl2 := (List.getElem?_eq_some_iff.mp hb)
    obtain ⟨hi, rfl⟩ := hl1
    obtain ⟨hj, rfl⟩ := hl2
    rcases Nat.lt_or_gt_of_ne hij with c | c
    · exact h2 i j hi hj c
    · exact fun x hx y hy e => h2 j i hj hi c y hy x hx e.symm
/-- some of the groups, in any order -/
theorem Zs.go {rs rs' : Grp} (gs : List Grp) (amb : Grp) (is : List Nat) (z : Zs rs H Ho) (h1 : rs = rowG gs amb := by rfl) (h2 : rs' = rowG (is.filterMap fun i => gs[i]?) amb := by rfl) (hn : is.Nodup := by decide) : Zs rs' H Ho := by
  subst h1 h2
  rw [rowG_eq] at z ⊢
  have sub : ∀ r ∈ (is.filterMap fun i => gs[i]?).flatten, r ∈ gs.flatten := fun r hr => by
    obtain ⟨g, hg, hr⟩ := List.mem_flatten.mp hr
    obtain ⟨i, _, e⟩ := List.mem_filterMap.mp hg
    exact List.mem_flatten.mpr ⟨g, List.mem_of_getElem? e, hr⟩
  have sub2 : ∀ r ∈ (is.filterMap fun i => gs[i]?).flatten ++ amb, r ∈ gs.flatten ++ amb := fun r hr => by
    rcases List.mem_append.mp hr with h | h
    · exact List.mem_append_left _ (sub r h)
    · exact List.mem_append_right _ h
  refine ⟨z.le, fun r hr => z.rt r (sub2 r hr), ?_, fun r hr => z.nt r (sub2 r hr)⟩
  · have nd := z.nd
    rw [List.map_append, List.nodup_append] at nd ⊢
    refine ⟨sel_nodup _ gs is hn nd.1, nd.2.1, fun a ha b hb e => ?_⟩
    obtain ⟨r, hr, rfl⟩ := List.mem_map.mp ha
    exact nd.2.2 _ (List.mem_map.mpr ⟨r, sub r hr, rfl⟩) b hb e
end
/-! ### ways, without data -/
section
variable {α β γ : Type} {Φ : γ → Prop}
theorem run_gd {p : Prop} {c : W γ} (h : (W.guard p c).run Φ) : p ∧ c.run Φ := h
theorem run_opt' {o : Option β} {f : β → W γ} (h : (W.bind (W.opt o) f).run Φ) : ∃ a, o = some a ∧ (f a).run Φ := h
theorem run_itT {A B : W γ} {b : Bool} (h : (W.ite b A B).run Φ) (e : b = true) : A.run Φ := h.1 e
theorem run_itF {A B : W γ} {b : Bool} (h : (W.ite b A B).run Φ) (e : b = false) : B.run Φ := h.2 e
theorem run_bret {e : β} {f : β → W γ} (h : (W.bind (W.ret e) f).run Φ) : (f e).run Φ := h
theorem w_two {b : Bool} {X Y : Prop} (h1 : b = true → X) (h2 : b = false → Y) : if b = true then X else Y := by
  cases b with
  | true => exact iteT (h1 rfl)
  | false => exact iteF (h2 rfl)
theorem exm_mono {c : W (Ex β)} {N N' : β → Prop} {X X' : Er → Prop} (h : c.run (ExP N X)) (h1 : ∀ a, N a → N' a) (h2 : ∀ e, X e → X' e) : c.run (ExP N' X') :=
  c.mono _ _ (fun r hr => by cases r with | ok a => exact h1 a hr | er e => exact h2 e hr) h
theorem run_mono' {c : W β} {N N' : β → Prop} (h : c.run N) (k : ∀ a, N a → N' a) : c.run N' := c.mono _ _ k h
theorem run_mono3 {c : W β} {f : β → W γ} {N : β → Prop} (hw : (W.bind c f).run Φ) (k : ∀ a, (f a).run Φ → N a) : c.run N := c.mono _ _ (fun r h => k r h) hw
theorem run_mono2 {c : W (α × β)} {f : α → β → W γ} {N : α × β → Prop} (hw : (W.bind2 c f).run Φ) (k : ∀ a b, (f a b).run Φ → N (a, b)) : c.run N := c.mono _ _ (fun r h => k r.1 r.2 h) hw
theorem run_b {c : W β} {f : β → W γ} (h : (W.bind c f).run Φ) : c.run fun a => (f a).run Φ := h
theorem run_b2 {c : W (α × β)} {f : α → β → W γ} (h : (W.bind2 c f).run Φ) : c.run fun r => (f r.1 r.2).run Φ := h
end
/-! ### lists of data of one's own -/
section
variable {K : PySem.W.Frag} {H Ho H' Ho' : Hp} {α β γ : Type} [Py α] [Py β] {Φ : γ → Prop} {R : Grp} {v w : V} {Q : VK}
def OL (K : PySem.W.Frag) (Ho : Hp) (v : V) (xs : List α) (g : Grp) : Prop := ∃ p vs, v = .ref p ∧ DL K Ho vs xs ∧ g = [(p, .lst vs)]
theorem OL.mo {v : V} {xs : List α} {g : Grp} (h : OL K Ho v xs g) (e : Same Ho Ho') : OL K Ho' v xs g := by
  obtain ⟨p, vs, rfl, d, rfl⟩ := h
  exact ⟨p, vs, rfl, DL.mo d e, rfl⟩
theorem OL.mk {p : Addr} {ws : List V} {xs : List α} (d : DL K Ho ws xs) : OL K Ho (.ref p) xs [(p, .lst ws)] := ⟨p, ws, rfl, d, rfl⟩
theorem OL.lv {xs : List α} {g : Grp} (h : OL K Ho v xs g) (m : ∀ r ∈ g, r ∈ R) : LV K R Ho v xs := by
  obtain ⟨p, vs, rfl, d, rfl⟩ := h
  exact ⟨p, vs, rfl, d, .inr (m _ (List.mem_singleton.mpr rfl))⟩
/-- a list of its own stands for good from now on -/
theorem OL.fr {xs : List α} {g : Grp} (h : OL K Ho v xs g) (z : Zs (g ++ R) H Ho) : ∃ Ho', Same Ho Ho' ∧ Zs R H Ho' ∧ Z.D K Ho' v xs := by
  obtain ⟨p, vs, rfl, d, rfl⟩ := h
  exact frz z d
theorem g_tyL {P : Prop} {xs : List α} (d : LV K R Ho v xs) (z : Zs R H Ho) (k : P) : tyV K "list" v H ∧ P := by
  obtain ⟨p, vs, rfl, _, s⟩ := LV.rd d z
  exact ⟨.inl ⟨rfl, _, s⟩, k⟩
theorem g_app {xs : List α} {x : α} {g : Grp} {f : List α → W γ} (z : Zs (g ++ R) H Ho) (o : OL K Ho v xs g) (dx : Z.D K Ho w x) (hw : (W.bind (apd xs x) f).run Φ) (k : ∀ xs' g' H', Zs (g' ++ R) H' Ho → OL K Ho v xs' g' → (f xs').run Φ → Q .non H') : rAppend v [w] H Q := by
  obtain ⟨p, vs, rfl, d, rfl⟩ := o
  exact ⟨p, vs, w, rfl, rfl, z.head, by rw [DL.len d]; exact hw.1, k _ _ _ z.put ⟨p, _, rfl, d.push dx, rfl⟩ hw.2⟩
theorem g_ext {xs ys : List α} {g g2 : Grp} {f : List α → W γ} (z : Zs (g2 ++ (g ++ R)) H Ho) (o : OL K Ho v xs g) (o2 : OL K Ho w ys g2) (hw : (W.bind (exd xs ys) f).run Φ) (k : ∀ xs' g' H', Zs (g' ++ R) H' Ho → OL K Ho v xs' g' → (f xs').run Φ → Q .non H') : rExtend v [w] H Q := by
  obtain ⟨p, vs, rfl, d, rfl⟩ := o
  obtain ⟨q, us, rfl, d2, rfl⟩ := o2
  have z1 : Zs ((p, .lst vs) :: (q, .lst us) :: R) H Ho := Zs.sw1 z
  exact ⟨p, q, vs, us, rfl, rfl, z1.head, z.head, by rw [DL.len d, DL.len d2]; exact hw.1, k _ _ _ (Zs.tail (Zs.sw1 z1.put)) ⟨p, _, rfl, d.append d2, rfl⟩ hw.2⟩
/-- xs.insert(i, x) -/
def insL {α : Type} (xs : List α) (i : Int) (x : α) : W (List α) := W.guard (xs.length < sizeLine ∧ 0 ≤ i ∧ i < 2 ^ 63) (W.ret (xs.take i.toNat ++ [x] ++ xs.drop i.toNat))
theorem dpAll_takeG {vs : List V} {ds : List PyData} (h : DqAll K H vs ds) (n : Nat) : DqAll K H (vs.take n) (ds.take n) := dpAll_take h n
theorem g_ins {xs : List α} {x : α} {i : Int} {g : Grp} {f : List α → W γ} (z : Zs (g ++ R) H Ho) (o : OL K Ho v xs g) (dx : Z.D K Ho w x) (hw : (W.bind (insL xs i x) f).run Φ) (k : ∀ xs' g' H', Zs (g' ++ R) H' Ho → OL K Ho v xs' g' → (f xs').run Φ → Q .non H') :
    (fun x vs H Q => ∃ (l : Addr) (xs : List V) (i : Int) (y : V), x = .ref l ∧ vs = [.int i, y] ∧ H l = some (.lst xs) ∧ xs.length < sizeLine ∧ 0 ≤ i ∧ i < 2 ^ 63 ∧ Q .non (upd H l (.lst (xs.take i.toNat ++ [y] ++ xs.drop i.toNat))) : V → List V → Hp → VK → Prop) v [.int i, w] H Q := by
  obtain ⟨p, vs, rfl, d, rfl⟩ := o
  obtain ⟨⟨h1, h2, h3⟩, hw⟩ := hw
  refine ⟨p, vs, i, w, rfl, rfl, z.head, by rw [DL.len d]; exact h1, h2, h3, k _ _ _ z.put ⟨p, _, rfl, ?_, rfl⟩ hw⟩
  show DqAll _ _ _ ((xs.take i.toNat ++ [x] ++ xs.drop i.toNat).map Py.toPy)
  rw [List.map_append, List.map_append, List.map_take, List.map_drop]
  exact dpAll_append (dpAll_append (dpAll_take d _) (.cons dx .nil)) (dpAll_drop d _)
theorem g_clear {xs : List α} {g : Grp} (z : Zs (g ++ R) H Ho) (o : OL K Ho v xs g) (k : ∀ g' H', Zs (g' ++ R) H' Ho → OL K Ho v ([] : List α) g' → Q .non H') : rClear v [] H Q := by
  obtain ⟨p, vs, rfl, d, rfl⟩ := o
  exact ⟨p, vs, rfl, rfl, z.head, k _ _ z.put ⟨p, _, rfl, .nil, rfl⟩⟩
theorem dpAll_rev {vs : List V} {ds : List PyData} (h : DqAll K H vs ds) : DqAll K H vs.reverse ds.reverse := by
  induction vs generalizing ds with
  | nil => cases h; exact .nil
  | cons v vs ih => cases h with | cons h1 h2 => rw [List.reverse_cons, List.reverse_cons]; exact dpAll_append (ih h2) (.cons h1 .nil)
theorem g_rev {xs : List α} {g : Grp} (z : Zs (g ++ R) H Ho) (o : OL K Ho v xs g) (k : ∀ g' H', Zs (g' ++ R) H' Ho → OL K Ho v xs.reverse g' → Q .non H') : rReverse v [] H Q := by
  obtain ⟨p, vs, rfl, d, rfl⟩ := o
  refine ⟨p, vs, rfl, rfl, z.head, k _ _ z.put ⟨p, _, rfl, ?_, rfl⟩⟩
  show DqAll _ _ _ (xs.reverse.map Py.toPy)
  rw [List.map_reverse]
  exact dpAll_rev d
theorem g_sti {xs : List α} {x : α} {i : Int} {g : Grp} {QH : Hp → Prop} {f : List α → W γ} (z : Zs (g ++ R) H Ho) (o : OL K Ho v xs g) (dx : Z.D K Ho w x) (hw : (W.bind (sti xs i x) f).run Φ) (k : ∀ xs' g' H', Zs (g' ++ R) H' Ho → OL K Ho v xs' g' → (f xs').run Φ → QH H') : rSetL v (.int i) w H QH := by
  obtain ⟨p, vs, rfl, d, rfl⟩ := o
  obtain ⟨j, ej, hw⟩ := hw
  exact ⟨p, vs, i, j, rfl, rfl, z.head, by rw [DL.len d]; exact ej, k _ _ _ z.put ⟨p, _, rfl, DL.set d dx j, rfl⟩ hw⟩
theorem g_pop {xs : List α} {g : Grp} {f : α → W γ} (z : Zs (g ++ R) H Ho) (o : OL K Ho v xs g) (hw : (W.bind (popL xs) f).run Φ) (k : ∀ t w g' H', Zs (g' ++ R) H' Ho → OL K Ho v xs.dropLast g' → Z.D K Ho w t → (f t).run Φ → Q w H') : rPop v [] H Q := by
  obtain ⟨p, vs, rfl, d, rfl⟩ := o
  exact y_pop (n := 0) z rfl d hw fun t w ws' H' z' d' dw hw => k t w _ H' z' ⟨p, _, rfl, d', rfl⟩ dw hw
theorem g_popI {xs : List α} {i : Int} {g : Grp} {f : α × List α → W γ} (z : Zs (g ++ R) H Ho) (o : OL K Ho v xs g) (hw : (W.bind (popI xs i) f).run Φ) (k : ∀ t xs' w g' H', Zs (g' ++ R) H' Ho → OL K Ho v xs' g' → Z.D K Ho w t → (f (t, xs')).run Φ → Q w H') : rPopAt v [.int i] H Q := by
  obtain ⟨p, vs, rfl, d, rfl⟩ := o
  exact y_popI (n := 0) z rfl d hw fun t xs' w ws' H' z' d' dw hw => k t xs' w _ H' z' ⟨p, _, rfl, d', rfl⟩ dw hw
/-! ### a value gets a name -/
def LetV (G : V → Prop) (v : V) : Prop := G v
theorem l_asg {u : TS} {te : TE} {D : Ends} {σ : L2.St} {i : Nat} (σ' : V → L2.St) (hσ : ∀ v, σ.set i (some v) = σ' v) (k : te σ H fun v H1 => LetV (fun v => u D (σ' v) H1) v) : tSeq (tAsg te (gName i)) u D σ H := by
  have e : (fun v H1 => LetV (fun v => u D (σ' v) H1) v) = fun v H1 => u D (σ.set i (some v)) H1 := by funext v H1; rw [hσ]; rfl
  rw [e] at k
  exact k
variable {G : V → Prop}
theorem l_n (k : G .non) : LetV G .non := k
theorem l_i {e : Int} {f : Int → W γ} (hw : (W.bind (W.ret e) f).run Φ) (k : ∀ x, (f x).run Φ → G (.int x)) : LetV G (.int e) := k e hw
theorem l_b {e : Bool} {f : Bool → W γ} (hw : (W.bind (W.ret e) f).run Φ) (k : ∀ x, (f x).run Φ → G (.bl x)) : LetV G (.bl e) := k e hw
theorem l_s {e : Str} {f : Str → W γ} (hw : (W.bind (W.ret e) f).run Φ) (k : ∀ x, (f x).run Φ → G (.str x)) : LetV G (.str e) := k e hw
theorem l_d {e : α} {f : α → W γ} (hw : (W.bind (W.ret e) f).run Φ) (d : Z.D K Ho v e) (k : ∀ x v, Z.D K Ho v x → (f x).run Φ → G v) : LetV G v := k e v d hw
theorem l_o {e : List α} {g : Grp} {f : List α → W γ} (hw : (W.bind (W.ret e) f).run Φ) (z : Zs (g ++ R) H Ho) (o : OL K Ho v e g) (k : ∀ x v g, Zs (g ++ R) H Ho → OL K Ho v x g → (f x).run Φ → G v) : LetV G v := k e v g z o hw
/-- what is told stands for good -/
theorem l_fr {P : Prop} {xs : List α} {g : Grp} (o : OL K Ho v xs g) (z : Zs (g ++ R) H Ho) (k : ∀ Ho', Same Ho Ho' → Zs R H Ho' → Z.D K Ho' v xs → P) : P := by
  obtain ⟨Ho', e, z', d⟩ := o.fr z
  exact k Ho' e z' d
/-! ### ways -/
theorem w_t {X Y : Prop} (k : X) : if true = true then X else Y := by simpa using k
/-- both ways tell a value and change nothing -/
theorem w_if {σ : L2.St} {ta tb : TE} {c : Bool} {a b : β} (mk : β → V) (h1 : c = true → Q (mk a) H → ta σ H Q) (h2 : c = false → Q (mk b) H → tb σ H Q) (k : Q (mk (if c = true then a else b)) H) : if c = true then ta σ H Q else tb σ H Q := by
  cases c with
  | true => exact iteT (h1 rfl k)
  | false => exact iteF (h2 rfl k)
theorem w_andP {σ : L2.St} {tu : TT} {QB : Bool → Hp → Prop} {a : Bool} (b : Bool) (h : a = true → QB b H → tu σ H QB) (k : QB (a && b) H) : if a = true then tu σ H QB else QB false H := by
  cases a with
  | true => exact iteT (h rfl k)
  | false => exact iteF k
theorem w_orP {σ : L2.St} {tu : TT} {QB : Bool → Hp → Prop} {a : Bool} (b : Bool) (h : a = false → QB b H → tu σ H QB) (k : QB (a || b) H) : if a = true then QB true H else tu σ H QB := by
  cases a with
  | true => exact iteT k
  | false => exact iteF (h rfl k)
theorem w_andPV {σ : L2.St} {tb : TE} {a : Bool} (b : Bool) (h : a = true → Q (.bl b) H → tb σ H Q) (k : Q (.bl (a && b)) H) : if a = true then tb σ H Q else Q (.bl false) H := by
  cases a with
  | true => exact iteT (h rfl k)
  | false => exact iteF k
theorem w_orPV {σ : L2.St} {tb : TE} {a : Bool} (b : Bool) (h : a = false → Q (.bl b) H → tb σ H Q) (k : Q (.bl (a || b)) H) : if a = true then Q (.bl true) H else tb σ H Q := by
  cases a with
  | true => exact iteT k
  | false => exact iteF (h rfl k)
theorem w_chain {σ : L2.St} {tc : TE} {r' : R2} {y : V} {a : Bool} (b : Bool) (h : a = true → Q (.bl b) H → tc σ H fun w' H4 => r' y w' H4 Q) (k : Q (.bl (a && b)) H) : if a = true then tc σ H (fun w' H4 => r' y w' H4 Q) else Q (.bl false) H := by
  cases a with
  | true => exact iteT (h rfl k)
  | false => exact iteF k
/-! ways that meet -/
section
variable {S ρ : Type} {b : Bool} {c1 c2 : W S} {f : S → W γ} {σ : L2.St} {D : Ends} {u t1 t2 : TS} {tu : TT} {ta tb : TE} {QB : Bool → Hp → Prop}
theorem w_ifJ (hw : (W.bind (W.ite b c1 c2) f).run Φ) (J : S → L2.St → Hp → Prop)
    (h1 : b = true → c1.run (fun s => ∀ σ' H', J s σ' H' → u D σ' H') → t1 { D with nx := u D } σ H)
    (h2 : b = false → c2.run (fun s => ∀ σ' H', J s σ' H' → u D σ' H') → t2 { D with nx := u D } σ H)
    (k : ∀ s σ' H', J s σ' H' → (f s).run Φ → u D σ' H') : if b = true then t1 { D with nx := u D } σ H else t2 { D with nx := u D } σ H := by
  cases b with
  | true => exact iteT (h1 rfl (W.mono _ _ _ (fun s q σ' H' j => k s σ' H' j q) (hw.1 rfl)))
  | false => exact iteF (h2 rfl (W.mono _ _ _ (fun s q σ' H' j => k s σ' H' j q) (hw.2 rfl)))
theorem w_ifC {Φ : ρ → Prop} {c1 c2 : W (Ctl ρ S)} {f : S → W ρ} (hw : (W.bind (W.ite b c1 c2) fun c => W.after c f).run Φ) (J : S → L2.St → Hp → Prop)
    (h1 : b = true → c1.run (CtlP (fun s => ∀ σ' H', J s σ' H' → u D σ' H') (fun s => ∀ σ' H', J s σ' H' → u D σ' H') Φ) → t1 { D with nx := u D } σ H)
    (h2 : b = false → c2.run (CtlP (fun s => ∀ σ' H', J s σ' H' → u D σ' H') (fun s => ∀ σ' H', J s σ' H' → u D σ' H') Φ) → t2 { D with nx := u D } σ H)
    (k : ∀ s σ' H', J s σ' H' → (f s).run Φ → u D σ' H') : if b = true then t1 { D with nx := u D } σ H else t2 { D with nx := u D } σ H := by
  have m : ∀ c : W (Ctl ρ S), c.run (fun c => (W.after c f).run Φ) → c.run (CtlP (fun s => ∀ σ' H', J s σ' H' → u D σ' H') (fun s => ∀ σ' H', J s σ' H' → u D σ' H') Φ) := fun c h => c.mono _ _ (fun r q => by
    cases r with
    | nx s => exact fun σ' H' j => k s σ' H' j q
    | bk s => exact fun σ' H' j => k s σ' H' j q
    | rt r => exact q) h
  cases b with
  | true => exact iteT (h1 rfl (m _ (hw.1 rfl)))
  | false => exact iteF (h2 rfl (m _ (hw.2 rfl)))
theorem w_andJ (hw : (W.bind (W.ite b c1 c2) f).run Φ) (J : S → Bool → Hp → Prop)
    (h1 : b = true → c1.run (fun s => ∀ v H', J s v H' → QB v H') → tu σ H QB)
    (h2 : b = false → c2.run (fun s => ∀ v H', J s v H' → QB v H') → QB false H)
    (k : ∀ s v H', J s v H' → (f s).run Φ → QB v H') : if b = true then tu σ H QB else QB false H := by
  cases b with
  | true => exact iteT (h1 rfl (W.mono _ _ _ (fun s q v H' j => k s v H' j q) (hw.1 rfl)))
  | false => exact iteF (h2 rfl (W.mono _ _ _ (fun s q v H' j => k s v H' j q) (hw.2 rfl)))
theorem w_orJ (hw : (W.bind (W.ite b c1 c2) f).run Φ) (J : S → Bool → Hp → Prop)
    (h1 : b = true → c1.run (fun s => ∀ v H', J s v H' → QB v H') → QB true H)
    (h2 : b = false → c2.run (fun s => ∀ v H', J s v H' → QB v H') → tu σ H QB)
    (k : ∀ s v H', J s v H' → (f s).run Φ → QB v H') : if b = true then QB true H else tu σ H QB := by
  cases b with
  | true => exact iteT (h1 rfl (W.mono _ _ _ (fun s q v H' j => k s v H' j q) (hw.1 rfl)))
  | false => exact iteF (h2 rfl (W.mono _ _ _ (fun s q v H' j => k s v H' j q) (hw.2 rfl)))
theorem w_andVJ (hw : (W.bind (W.ite b c1 c2) f).run Φ) (J : S → V → Hp → Prop)
    (h1 : b = true → c1.run (fun s => ∀ v H', J s v H' → Q v H') → tb σ H Q)
    (h2 : b = false → c2.run (fun s => ∀ v H', J s v H' → Q v H') → Q (.bl false) H)
    (k : ∀ s v H', J s v H' → (f s).run Φ → Q v H') : if b = true then tb σ H Q else Q (.bl false) H := by
  cases b with
  | true => exact iteT (h1 rfl (W.mono _ _ _ (fun s q v H' j => k s v H' j q) (hw.1 rfl)))
  | false => exact iteF (h2 rfl (W.mono _ _ _ (fun s q v H' j => k s v H' j q) (hw.2 rfl)))
theorem w_orVJ (hw : (W.bind (W.ite b c1 c2) f).run Φ) (J : S → V → Hp → Prop)
    (h1 : b = true → c1.run (fun s => ∀ v H', J s v H' → Q v H') → Q (.bl true) H)
    (h2 : b = false → c2.run (fun s => ∀ v H', J s v H' → Q v H') → tb σ H Q)
    (k : ∀ s v H', J s v H' → (f s).run Φ → Q v H') : if b = true then Q (.bl true) H else tb σ H Q := by
  cases b with
  | true => exact iteT (h1 rfl (W.mono _ _ _ (fun s q v H' j => k s v H' j q) (hw.1 rfl)))
  | false => exact iteF (h2 rfl (W.mono _ _ _ (fun s q v H' j => k s v H' j q) (hw.2 rfl)))
theorem w_ifEJ (hw : (W.bind (W.ite b c1 c2) f).run Φ) (J : S → V → Hp → Prop)
    (h1 : b = true → c1.run (fun s => ∀ v H', J s v H' → Q v H') → ta σ H Q)
    (h2 : b = false → c2.run (fun s => ∀ v H', J s v H' → Q v H') → tb σ H Q)
    (k : ∀ s v H', J s v H' → (f s).run Φ → Q v H') : if b = true then ta σ H Q else tb σ H Q := by
  cases b with
  | true => exact iteT (h1 rfl (W.mono _ _ _ (fun s q v H' j => k s v H' j q) (hw.1 rfl)))
  | false => exact iteF (h2 rfl (W.mono _ _ _ (fun s q v H' j => k s v H' j q) (hw.2 rfl)))
end
/-! ### targets -/
section
variable {δ ε : Type} [Py δ] [Py ε] {i j l m : Nat} {x : V} {σ : L2.St} {QS : L2.St → Hp → Prop} {rs : Grp}
theorem c_gt2 {a : α × β} (σ' : V → V → L2.St) (hσ : ∀ v u, (σ.set i (some v)).set j (some u) = σ' v u) (d : Z.D K Ho x a) (z : Zs rs H Ho) (k : ∀ v u, Z.D K Ho v a.1 → Z.D K Ho u a.2 → QS (σ' v u) H) : gTup K 2 (gCons (gName i) (gCons (gName j) gNil)) x σ H QS :=
  y_gt2 d z fun v u d1 d2 => by rw [hσ]; exact k v u d1 d2
theorem c_gt3 {a : P3 α β δ} (σ' : V → V → V → L2.St) (hσ : ∀ v u w, ((σ.set i (some v)).set j (some u)).set l (some w) = σ' v u w) (d : Z.D K Ho x a) (z : Zs rs H Ho) (k : ∀ v u w, Z.D K Ho v a.a → Z.D K Ho u a.b → Z.D K Ho w a.c → QS (σ' v u w) H) : gTup K 3 (gCons (gName i) (gCons (gName j) (gCons (gName l) gNil))) x σ H QS :=
  y_gt3 d z fun v u w d1 d2 d3 => by rw [hσ]; exact k v u w d1 d2 d3
theorem c_gt4 {a : P4 α β δ ε} (σ' : V → V → V → V → L2.St) (hσ : ∀ v u w t, (((σ.set i (some v)).set j (some u)).set l (some w)).set m (some t) = σ' v u w t) (d : Z.D K Ho x a) (z : Zs rs H Ho) (k : ∀ v u w t, Z.D K Ho v a.a → Z.D K Ho u a.b → Z.D K Ho w a.c → Z.D K Ho t a.d → QS (σ' v u w t) H) : gTup K 4 (gCons (gName i) (gCons (gName j) (gCons (gName l) (gCons (gName m) gNil)))) x σ H QS :=
  y_gt4 d z fun v u w t d1 d2 d3 d4 => by rw [hσ]; exact k v u w t d1 d2 d3 d4
theorem l_u {e : α} {f : α → W γ} {P : V → Prop} (hw : (W.bind (W.ret e) f).run Φ) (d : Z.D K Ho v e) (k : ∀ x v, Z.D K Ho v x → (f x).run Φ → P v) : P v := k e v d hw
theorem l_u2 {e : α} {f : α → W γ} {P : Prop} (hw : (W.bind (W.ret e) f).run Φ) (d : Z.D K Ho v e) (k : ∀ x, Z.D K Ho v x → (f x).run Φ → P) : P := k e d hw
theorem l_aug {te : TE} {tip : TIp} {u : TS} {D : Ends} (σ' : V → L2.St) (h : σ[i]? = some (some v)) (hσ : ∀ v, σ.set i (some v) = σ' v) (k : te σ H fun y H1 => tip v y H1 fun z H2 => LetV (fun v => u D (σ' v) H2) z) : tSeq (tAug i te tip) u D σ H := by
  refine y_aug σ' h hσ ?_
  exact k
end
/-! ### lists of unlike things -/
section
class Hc (α : Type) where
  cs : α → List PyData
structure H2 (α β : Type) where
  a : α
  b : β
  deriving DecidableEq
structure H3 (α β γ : Type) where
  a : α
  b : β
  c : γ
  deriving DecidableEq
structure H4 (α β γ δ : Type) where
  a : α
  b : β
  c : γ
  d : δ
  deriving DecidableEq
structure H5 (α β γ δ ε : Type) where
  a : α
  b : β
  c : γ
  d : δ
  e : ε
  deriving DecidableEq
instance {α β : Type} [Py α] [Py β] : Hc (H2 α β) := ⟨fun p => [toPy p.a, toPy p.b]⟩
instance {α β γ : Type} [Py α] [Py β] [Py γ] : Hc (H3 α β γ) := ⟨fun p => [toPy p.a, toPy p.b, toPy p.c]⟩
instance {α β γ δ : Type} [Py α] [Py β] [Py γ] [Py δ] : Hc (H4 α β γ δ) := ⟨fun p => [toPy p.a, toPy p.b, toPy p.c, toPy p.d]⟩
instance {α β γ δ ε : Type} [Py α] [Py β] [Py γ] [Py δ] [Py ε] : Hc (H5 α β γ δ ε) := ⟨fun p => [toPy p.a, toPy p.b, toPy p.c, toPy p.d, toPy p.e]⟩
instance {α : Type} [Hc α] : Py α := ⟨fun p => .list (Hc.cs p)⟩
variable {η : Type} [Hc η]
def OH (K : PySem.W.Frag) (Ho : Hp) (v : V) (x : η) (g : Grp) : Prop := ∃ p vs, v = .ref p ∧ DqAll K Ho vs (Hc.cs x) ∧ g = [(p, .lst vs)]
theorem OH.mo {v : V} {x : η} {g : Grp} (h : OH K Ho v x g) (e : Same Ho Ho') : OH K Ho' v x g := by
  obtain ⟨p, vs, rfl, d, rfl⟩ := h
  exact ⟨p, vs, rfl, dpAll_mono e _ _ d, rfl⟩
theorem atI_dq {vs : List V} {ds : List PyData} {i : Int} {d : PyData} (h : DqAll K H vs ds) (e : atI ds i = some d) : ∃ v, atI vs i = some v ∧ Dq K H v d := by
  unfold atI at e ⊢
  rw [dpAll_len h]
  cases q : ixN ds.length i with
  | none => rw [q] at e; cases e
  | some j => rw [q] at e; exact dpAll_get h e
theorem h_ix {x : η} {y : β} {i : Int} {g : Grp} (o : OH K Ho v x g) (z : Zs (g ++ R) H Ho) (hj : atI (Hc.cs x) i = some (toPy y)) (k : ∀ w, Z.D K Ho w y → Q w H) : rIxL K v (.int i) H Q := by
  obtain ⟨p, vs, rfl, d, rfl⟩ := o
  obtain ⟨w, ew, dw⟩ := atI_dq d hj
  exact ⟨p, vs, i, w, rfl, rfl, SqL.of z.head, ew, k w dw⟩
theorem h_st {x y : η} {e : β} {i : Int} {j : Nat} {g : Grp} {QH : Hp → Prop} (z : Zs (g ++ R) H Ho) (o : OH K Ho v x g) (dx : Z.D K Ho w e) (hj : ixN (Hc.cs x).length i = some j) (hy : Hc.cs y = (Hc.cs x).set j (toPy e)) (k : ∀ g' H', Zs (g' ++ R) H' Ho → OH K Ho v y g' → QH H') : rSetL v (.int i) w H QH := by
  obtain ⟨p, vs, rfl, d, rfl⟩ := o
  refine ⟨p, vs, i, j, rfl, rfl, z.head, by rw [dpAll_len d]; exact hj, k _ _ z.put ⟨p, _, rfl, ?_, rfl⟩⟩
  rw [hy]
  exact dpAll_set d dx j
theorem OH.fr {x : η} {g : Grp} (h : OH K Ho v x g) (z : Zs (g ++ R) H Ho) : ∃ Ho', Same Ho Ho' ∧ Zs R H Ho' ∧ Z.D K Ho' v x := by
  obtain ⟨p, vs, rfl, d, rfl⟩ := h
  have z : Zs ((p, .lst vs) :: R) H Ho := z
  have e : Same Ho (upd Ho p (.lst vs)) := Same.new z.headN
  exact ⟨_, e, z.freeze, .lst (SqL.of upd_same) (dpAll_mono e _ _ d)⟩
theorem h_fr {P : Prop} {x : η} {g : Grp} (o : OH K Ho v x g) (z : Zs (g ++ R) H Ho) (k : ∀ Ho', Same Ho Ho' → Zs R H Ho' → Z.D K Ho' v x → P) : P := by
  obtain ⟨Ho', e, z', d⟩ := o.fr z
  exact k Ho' e z' d
theorem h_nm {P : Prop} {e : η} {g : Grp} {f : η → W γ} (hw : (W.bind (W.ret e) f).run Φ) (o : OH K Ho v e g) (k : ∀ x, OH K Ho v x g → (f x).run Φ → P) : P := k e o hw
theorem h_nmL {P : Prop} {e : List α} {g : Grp} {f : List α → W γ} (hw : (W.bind (W.ret e) f).run Φ) (o : OL K Ho v e g) (k : ∀ x, OL K Ho v x g → (f x).run Φ → P) : P := k e o hw
theorem h_o {G : V → Prop} {e : η} {g : Grp} {f : η → W γ} (hw : (W.bind (W.ret e) f).run Φ) (z : Zs (g ++ R) H Ho) (o : OH K Ho v e g) (k : ∀ x v g, Zs (g ++ R) H Ho → OH K Ho v x g → (f x).run Φ → G v) : LetV G v := k e v g z o hw
/-- the display [a, b, ..] of unlike things -/
theorem h_lst {vs : List V} {x : η} (z : Zs R H Ho) (hx : DqAll K Ho vs (Hc.cs x)) (hl : vs.length ≤ sizeLine) (k : ∀ H' p g, Zs (g ++ R) H' Ho → OH K Ho (.ref p) x g → Q (.ref p) H') : vs.length ≤ sizeLine ∧ ∀ p, H p = none → Q (.ref p) (upd H p (.lst vs)) :=
  ⟨hl, fun p hp => k _ p _ (z.root hp) ⟨p, _, rfl, hx, rfl⟩⟩
end
end
section
variable {K : PySem.W.Frag} {H Ho H' Ho' : Hp} {α β γ : Type} [Py α] [Py β] {Φ : γ → Prop} {R rs : Grp} {v w : V} {Q : VK} {σ : L2.St}
theorem y_get {P : Prop} {x : Option β} {f : β → W γ} (d : Z.D K Ho v x) (hw : (W.bind (W.opt x) f).run Φ) (k : ∀ t, Z.D K Ho v t → (f t).run Φ → P) : P := by
  obtain ⟨t, rfl, hw⟩ := hw
  exact k t d hw
theorem y_lstRg {te : L2.St → Hp → (Int → Int → Hp → Prop) → Prop} (k : te σ H fun a b H1 => RgOk a b ∧ ∀ q, H1 q = none → Q (.ref q) (upd H1 q (.lst (rgV a b)))) : tLstRg te σ H Q := k
theorem y_rg1 {ta : TE} {QR : Int → Int → Hp → Prop} (k : ta σ H fun x H1 => ∃ n, x = .int n ∧ QR 0 n H1) : tRg1 ta σ H QR := k
theorem y_rg2 {ta tb : TE} {QR : Int → Int → Hp → Prop} (k : ta σ H fun x H1 => tb σ H1 fun y H2 => ∃ i j, x = .int i ∧ y = .int j ∧ QR i j H2) : tRg2 ta tb σ H QR := k
theorem y_rg1v {QR : Int → Int → Hp → Prop} {n : Int} (k : QR 0 n H) : ∃ m, V.int n = .int m ∧ QR 0 m H := ⟨n, rfl, k⟩
theorem y_rg2v {QR : Int → Int → Hp → Prop} {i j : Int} (k : QR i j H) : ∃ i' j', V.int i = .int i' ∧ V.int j = .int j' ∧ QR i' j' H := ⟨i, j, rfl, rfl, k⟩
theorem rgV_rng {a b : Int} : rgV a b = (rng a b).map V.int := by
  unfold rgV rng
  rw [List.map_map]
  rfl
theorem y_listR {a b : Int} (z : Zs rs H Ho) (hg : RgOk a b) (k : ∀ H' p ws, Zs ((p, .lst ws) :: rs) H' Ho → DL K Ho ws (rng a b) → Q (.ref p) H') : RgOk a b ∧ ∀ q, H q = none → Q (.ref q) (upd H q (.lst (rgV a b))) :=
  ⟨hg, fun q hq => by rw [rgV_rng]; exact k _ q _ (z.root hq) ints_dl⟩
theorem dpAll_lenT {x : α} {ds : List PyData} (hx : toPy x = .tuple ds) (d : Z.D K Ho v x) (z : Zs rs H Ho) (k : Q (.int (ds.length : Int)) H) : rLenZ K [v] H Q := by
  have d : Dq K Ho v (toPy x) := d
  rw [hx] at d
  cases d with
  | tup hs ha =>
    refine ⟨_, _, rfl, .inr (SqT.of (z.le _ _ hs)), ?_⟩
    rw [dpAll_len ha]; exact k
end
/-! ### what is asked of a value, not taken apart too early -/
section
variable {K : PySem.W.Frag} {H Ho H' Ho' : Hp} {α β γ : Type} [Py α] [Py β] {Φ : γ → Prop} {rs r0 : Grp} {v w u : V} {vs : List V} {Q : VK} {σ : L2.St} {ts : TA} {te : TE} {R : It → Hp → Prop}
def LstK (Q : VK) (vs : List V) (H : Hp) : Prop := vs.length ≤ sizeLine ∧ ∀ p, H p = none → Q (.ref p) (upd H p (.lst vs))
def TupK (Q : VK) (vs : List V) (H : Hp) : Prop := vs.length ≤ sizeLine ∧ ∀ p, H p = none → Q (.ref p) (upd H p (.tup vs))
def RgK (Q : VK) (a b : Int) (H : Hp) : Prop := RgOk a b ∧ ∀ q, H q = none → Q (.ref q) (upd H q (.lst (rgV a b)))
theorem k_lst (k : ts σ H fun xs H1 => LstK Q xs H1) : tLst ts σ H Q := k
theorem k_tup (k : ts σ H fun xs H1 => TupK Q xs H1) : tTup ts σ H Q := k
theorem k_lstk {xs : List α} (z : Zs rs H Ho) (d : DL K Ho vs xs) (hl : vs.length ≤ sizeLine) (k : ∀ H' p ws, Zs ((p, .lst ws) :: rs) H' Ho → DL K Ho ws xs → Q (.ref p) H') : LstK Q vs H := y_lstk z d hl k
theorem k_tupk {x : α} (z : Zs rs H Ho) (hl : vs.length ≤ sizeLine) (ds : List PyData) (hx : toPy x = .tuple ds) (d : DqAll K Ho vs ds) (k : ∀ p H' Ho', Same Ho Ho' → Zs rs H' Ho' → Z.D K Ho' (.ref p) x → Q (.ref p) H') : TupK Q vs H := y_tupk z hl ds hx d k
theorem k_hlst {η : Type} [Hc η] {x : η} (z : Zs rs H Ho) (hx : DqAll K Ho vs (Hc.cs x)) (hl : vs.length ≤ sizeLine) (k : ∀ H' p g, Zs (g ++ rs) H' Ho → OH K Ho (.ref p) x g → Q (.ref p) H') : LstK Q vs H := h_lst z hx hl k
theorem k_lstRg {tr : L2.St → Hp → (Int → Int → Hp → Prop) → Prop} (k : tr σ H fun a b H1 => RgK Q a b H1) : tLstRg tr σ H Q := k
theorem k_listR {a b : Int} (z : Zs rs H Ho) (hg : RgOk a b) (k : ∀ H' p ws, Zs ((p, .lst ws) :: rs) H' Ho → DL K Ho ws (rng a b) → Q (.ref p) H') : RgK Q a b H := y_listR z hg k
def SrcL (K : PySem.W.Frag) (R : It → Hp → Prop) (x : V) (H : Hp) : Prop := ∃ a, x = .ref a ∧ (∃ xs, SqL K H a xs) ∧ R (Itl K a) H
def SrcT (K : PySem.W.Frag) (R : It → Hp → Prop) (x : V) (H : Hp) : Prop := ∃ a, x = .ref a ∧ (∃ xs, SqT K H a xs) ∧ R (Itt K a) H
def Src1 (R : It → Hp → Prop) (vs : List V) (H : Hp) : Prop := ∃ j : Int, vs = [.int j] ∧ -(2 ^ 62) ≤ j ∧ j < 2 ^ 62 ∧ R (Itr 0 j.toNat) H
def Src2 (R : It → Hp → Prop) (vs : List V) (H : Hp) : Prop := ∃ i j : Int, vs = [.int i, .int j] ∧ (-(2 ^ 62) ≤ i ∧ i < 2 ^ 62 ∧ -(2 ^ 62) ≤ j ∧ j < 2 ^ 62) ∧ R (Itr i (j - i).toNat) H
def Src3 (R : It → Hp → Prop) (vs : List V) (H : Hp) : Prop := ∃ (a b c : Int) (n : Nat), vs = [.int a, .int b, .int c] ∧ RgC a b c n ∧ R (Itc a c n) H
def SrcZ (K : PySem.W.Frag) (R : It → Hp → Prop) (vs : List V) (H : Hp) : Prop := ∃ a b xs ys, vs = [.ref a, .ref b] ∧ SqL K H a xs ∧ SqL K H b ys ∧ R (Itz K a b) H
def SrcE (K : PySem.W.Frag) (R : It → Hp → Prop) (vs : List V) (H : Hp) : Prop := ∃ a xs, vs = [.ref a] ∧ SqL K H a xs ∧ R (Ite K a) H
def SrcV (K : PySem.W.Frag) (R : It → Hp → Prop) (vs : List V) (H : Hp) : Prop := ∃ a xs, vs = [.ref a] ∧ SqL K H a xs ∧ R (Itv K a xs.length) H
theorem k_iList (k : te σ H fun x H1 => SrcL K R x H1) : iList K te σ H R := k
theorem k_iTup (k : te σ H fun x H1 => SrcT K R x H1) : iTup K te σ H R := k
theorem k_iR1 (k : ts σ H fun vs H1 => Src1 R vs H1) : iRng1 ts σ H R := k
theorem k_iR2 (k : ts σ H fun vs H1 => Src2 R vs H1) : iRng2 ts σ H R := k
theorem k_iR3 (k : ts σ H fun vs H1 => Src3 R vs H1) : iRng3 ts σ H R := k
theorem k_iZip (k : ts σ H fun vs H1 => SrcZ K R vs H1) : iZip K ts σ H R := k
theorem k_iEnum (k : ts σ H fun vs H1 => SrcE K R vs H1) : iEnum K ts σ H R := k
theorem k_iRev (k : ts σ H fun vs H1 => SrcV K R vs H1) : iRev K ts σ H R := k
theorem k_srcL {xs : List α} (d : LV K r0 Ho v xs) (hs : ∀ r ∈ r0, r ∈ rs) (z : Zs rs H Ho) (k : ∀ J, Trn K r0 J xs Ho → R J H) : SrcL K R v H := y_srcL d hs z k
theorem k_srcT {x : β} {xs : List α} (d : Z.D K Ho v x) (hf : toPy x = .tuple (xs.map Py.toPy)) (z : Zs rs H Ho) (k : ∀ J, Trn K [] J xs Ho → R J H) : SrcT K R v H := y_srcT d hf z k
theorem k_srcR1 {n : Int} (hg : rngOk 0 n) (k : ∀ J, Trn K [] J (rng 0 n) Ho → R J H) : Src1 R [V.int n] H := y_srcR1 hg k
theorem k_srcR2 {a b : Int} (hg : rngOk a b) (k : ∀ J, Trn K [] J (rng a b) Ho → R J H) : Src2 R [V.int a, V.int b] H := y_srcR2 hg k
theorem k_srcR3 {a b : Int} (hg : rngOk b a) (k : ∀ J, Trn K [] J (rngD a b) Ho → R J H) : Src3 R [V.int a, V.int b, V.int (-1)] H := y_srcR3 hg k
theorem k_srcZ {xs : List α} {ys : List β} (d : LV K r0 Ho v xs) (d' : LV K r0 Ho u ys) (hs : ∀ r ∈ r0, r ∈ rs) (z : Zs rs H Ho) (k : ∀ J, Trn K r0 J (xs.zip ys) Ho → R J H) : SrcZ K R [v, u] H := y_srcZ d d' hs z k
theorem k_srcE {xs : List α} (d : LV K r0 Ho v xs) (hs : ∀ r ∈ r0, r ∈ rs) (z : Zs rs H Ho) (k : ∀ J, Trn K r0 J (enumZ xs) Ho → R J H) : SrcE K R [v] H := y_srcE d hs z k
theorem k_srcV {xs : List α} (d : LV K r0 Ho v xs) (hs : ∀ r ∈ r0, r ∈ rs) (z : Zs rs H Ho) (k : ∀ J, Trn K r0 J xs.reverse Ho → R J H) : SrcV K R [v] H := y_srcV d hs z k
theorem y_nxS {D : Ends} {u : TS} (k : u D σ H) : tNext { D with nx := u D } σ H := k
end
section
variable {K : PySem.W.Frag} {H Ho H' Ho' : Hp} {α β γ : Type} [Py α] [Py β] {Φ : γ → Prop} {rs R : Grp} {v w : V} {Q : VK} {σ : L2.St} {ta : TA} {D : Ends} {u : TS} {i j : Nat}
theorem not_isNone {x : Option β} : (!x.isNone) = x.isSome := by cases x <;> rfl
def rInsert : V → List V → Hp → VK → Prop := fun x vs H Q => ∃ (l : Addr) (xs : List V) (i : Int) (y : V), x = .ref l ∧ vs = [.int i, y] ∧ H l = some (.lst xs) ∧ xs.length < sizeLine ∧ 0 ≤ i ∧ i < 2 ^ 63 ∧ Q .non (upd H l (.lst (xs.take i.toNat ++ [y] ++ xs.drop i.toNat)))
theorem zmt_insert {X : Cx} : MtR X "list.insert" rInsert := mt_insert
theorem k_ins {xs : List α} {x : α} {i : Int} {g : Grp} {f : List α → W γ} (z : Zs (g ++ R) H Ho) (o : OL K Ho v xs g) (dx : Z.D K Ho w x) (hw : (W.bind (insL xs i x) f).run Φ) (k : ∀ xs' g' H', Zs (g' ++ R) H' Ho → OL K Ho v xs' g' → (f xs').run Φ → Q .non H') : rInsert v [.int i, w] H Q := g_ins z o dx hw k
def Par2 (G : V → V → Prop) (vs : List V) : Prop := ∃ v w, vs = [v, w] ∧ G v w
theorem l_par (σ' : V → V → L2.St) (hσ : ∀ v w, (σ.set i (some v)).set j (some w) = σ' v w) (k : ta σ H fun vs H1 => Par2 (fun v w => u D (σ' v w) H1) vs) : tSeq (tPar i j ta) u D σ H := by
  have e : (fun vs H1 => Par2 (fun v w => u D (σ' v w) H1) vs) = fun vs H1 => ∃ v w, vs = [v, w] ∧ u D ((σ.set i (some v)).set j (some w)) H1 := by
    funext vs H1
    unfold Par2
    simp only [hσ]
  rw [e] at k
  exact k
theorem l_par2 {G : V → V → Prop} (k : LetV (fun v => LetV (fun w => G v w) w) v) : Par2 G [v, w] := ⟨v, w, rfl, k⟩
end
section
variable {K : PySem.W.Frag} {H Ho : Hp} {rs : Grp} {vs : List V} {Q : VK} {σ : L2.St} {ts : TA}
theorem k_tcs {QV : VK} (z : Zs rs H Ho) (ht : TCs ts vs) (hl : vs.length ≤ sizeLine) (k : ∀ p H' Ho', Same Ho Ho' → Zs rs H' Ho' → H' p = some (.tup vs) → QV (.ref p) H') : tTup ts σ H QV :=
  ht.run ⟨hl, fun p hp => k p _ _ (Same.new (z.free hp)) (z.alloc hp) upd_same⟩
theorem k_isXT {cl : Nat → Addr} {n : Nat} {a p : Addr} {us : List Value} {b : Bool} (hp : H p = some (.tup vs)) (xc : ExcC K (cl n)) (k : Paired ClsV vs us) (e : PySem.W.kitAny K (.ref (cl n)) us = some b) (q : Q (.bl b) H) : rIsXT K a (.ref (cl n)) none [.ref a, .ref p] H Q :=
  ⟨_, p, vs, us, b, rfl, rfl, rfl, hp, k, xc, e, q⟩
end
end Z

/-! # dicts with int keys and with keys of two ints -/
namespace Z
open PySem L2
theorem room1 {k : Nat} {A : Around} (r : Room k A) : A.units + 1 < cLine := by have := r.un; omega
abbrev Dc (κ α : Type) := List (κ × α)
section
variable {κ α : Type} [DecidableEq κ]
def valM (m : Dc κ α) (k : κ) : Option α := (m.find? fun p => decide (p.1 = k)).map (·.2)
def putM (m : Dc κ α) (k : κ) (a : α) : Dc κ α := if (m.any fun p => decide (p.1 = k)) = true then m.map (fun p => if p.1 = k then (p.1, a) else p) else m ++ [(k, a)]
def putG (m : Dc κ α) (k : κ) (a : α) : W (Dc κ α) := W.guard (m.length < sizeLine) (W.ret (putM m k a))
end
class DKey (κ : Type) [Py κ] where
  kt : Type
  dec : DecidableEq kt
  key : κ → kt
  inj : ∀ {a b : κ}, key a = key b → a = b
  ho : List (kt × V) → HO
  nt : ∀ kvs, NotTup (ho kvs) := by intro kvs; exact trivial
  get : ∀ {K : PySem.W.Frag} {H Ho : Hp} {v : V} {k : κ} {p : Addr} {kvs : List (kt × V)}, H p = some (ho kvs) → Same Ho H → Z.D K Ho v k → DGet H p v (@valV kt dec kvs (key k))
  put : ∀ {K : PySem.W.Frag} {H Ho : Hp} {v y : V} {k : κ} {p : Addr} {kvs : List (kt × V)}, H p = some (ho kvs) → Same Ho H → Z.D K Ho v k → kvs.length < sizeLine → DPut H p v y (upd H p (ho (@putK kt dec kvs (key k) y)))
  isd : ∀ {H : Hp} {p : Addr} {kvs : List (kt × V)}, H p = some (ho kvs) → IsD H p
instance : DKey Int where
  kt := L2.Key
  dec := inferInstance
  key i := .inl i
  inj h := by cases h; rfl
  ho := .dK
  get e _ d := by rw [d_int d]; exact DGet.k (k := .inl _) e
  put e _ d h := by rw [d_int d]; exact DPut.k (k := .inl _) e h
  isd e := .inl ⟨_, .inl e⟩
instance : DKey (Int × Int) where
  kt := List L2.Key
  dec := inferInstance
  key p := [.inl p.1, .inl p.2]
  inj h := by
    rename_i a b
    obtain ⟨a1, a2⟩ := a
    obtain ⟨b1, b2⟩ := b
    simp only [List.cons.injEq, Sum.inl.injEq, and_true] at h
    rw [h.1, h.2]
  ho := .dT
  get e s d := by
    cases d with
    | tup hs ha =>
      cases ha with
      | cons h1 h2 =>
        cases h2 with
        | cons h3 h4 =>
          cases h4
          rw [d_int h1, d_int h3] at hs
          exact DGet.t e (s _ _ hs)
  put e s d h := by
    cases d with
    | tup hs ha =>
      cases ha with
      | cons h1 h2 =>
        cases h2 with
        | cons h3 h4 =>
          cases h4
          rw [d_int h1, d_int h3] at hs
          exact DPut.t e (s _ _ hs) h
  isd e := .inr ⟨_, .inl e⟩
section
variable {K : PySem.W.Frag} {H Ho H' Ho' : Hp} {κ α γ : Type} [Py κ] [DecidableEq κ] [DKey κ] [Py α] {Φ : γ → Prop} {R : Grp} {v w u : V} {Q : VK} {σ : L2.St}

def DM (K : PySem.W.Frag) (Ho : Hp) (kvs : List (DKey.kt κ × V)) (m : Dc κ α) : Prop := kvs.map (·.1) = m.map (fun p => DKey.key p.1) ∧ DL K Ho (kvs.map (·.2)) (m.map (·.2))
theorem DM.len {kvs : List (DKey.kt κ × V)} {m : Dc κ α} (h : DM K Ho kvs m) : kvs.length = m.length := by
  have := congrArg List.length h.1
  simpa using this
theorem DM.val : ∀ {kvs : List (DKey.kt κ × V)} {m : Dc κ α}, DM K Ho kvs m → ∀ k : κ, (valM m k = none → @valV _ DKey.dec kvs (DKey.key k) = none) ∧ ∀ a, valM m k = some a → ∃ x, @valV _ DKey.dec kvs (DKey.key k) = some x ∧ Z.D K Ho x a
  | [], [], _, k => ⟨fun _ => rfl, fun a e => by cases e⟩
  | [], _ :: _, h, _ => by cases h.1
  | _ :: _, [], h, _ => by cases h.1
  | (k1, x) :: kvs, (k2, a) :: m, h, k => by
    obtain ⟨h1, h2⟩ := h
    simp only [List.map_cons, List.cons.injEq] at h1
    cases h2 with
    | cons d ds =>
      have ih := DM.val (kvs := kvs) (m := m) ⟨h1.2, ds⟩ k
      by_cases c : k2 = k
      · have e1 : valM ((k2, a) :: m) k = some a := by simp [valM, List.find?_cons, c]
        have e2 : @valV _ DKey.dec ((k1, x) :: kvs) (DKey.key k) = some x := @valV_pos _ DKey.dec (k1, x) kvs (DKey.key k) (by rw [← c]; exact h1.1)
        rw [e1, e2]
        exact ⟨fun z => (nomatch z), fun b e => ⟨x, rfl, by cases e; exact d⟩⟩
      · have e1 : valM ((k2, a) :: m) k = valM m k := by simp [valM, List.find?_cons, c]
        have e2 : @valV _ DKey.dec ((k1, x) :: kvs) (DKey.key k) = @valV _ DKey.dec kvs (DKey.key k) := @valV_neg _ DKey.dec (k1, x) kvs (DKey.key k) (fun z => c (DKey.inj (h1.1.symm.trans z)))
        rw [e1, e2]
        exact ih
theorem valM_any (k : κ) : ∀ m : Dc κ α, (m.any fun p => decide (p.1 = k)) = (valM m k).isSome
  | [] => rfl
  | p :: r => by
    rw [List.any_cons]
    by_cases e : p.1 = k
    · have : valM (p :: r) k = some p.2 := by simp [valM, List.find?_cons, e]
      rw [this, decide_eq_true e]; rfl
    · have : valM (p :: r) k = valM r k := by simp [valM, List.find?_cons, e]
      rw [this, decide_eq_false e, Bool.false_or, valM_any k r]
theorem DM.some {kvs : List (DKey.kt κ × V)} {m : Dc κ α} (h : DM K Ho kvs m) (k : κ) : (@valV _ DKey.dec kvs (DKey.key k)).isSome = (valM m k).isSome := by
  obtain ⟨h1, h2⟩ := h.val k
  cases e : valM m k with
  | none => rw [h1 e]; rfl
  | some a => obtain ⟨x, ex, _⟩ := h2 a e; rw [ex]; rfl
theorem DM.mapped {x : V} {a : α} (k : κ) (d : Z.D K Ho x a) : ∀ {kvs : List (DKey.kt κ × V)} {m : Dc κ α}, DM K Ho kvs m →
    DM K Ho (kvs.map fun kv => @ite _ (kv.1 = DKey.key k) (DKey.dec kv.1 (DKey.key k)) (kv.1, x) kv) (m.map fun p => if p.1 = k then (p.1, a) else p)
  | [], [], _ => ⟨rfl, .nil⟩
  | [], _ :: _, h => by cases h.1
  | _ :: _, [], h => by cases h.1
  | (k1, y) :: kvs, (k2, b) :: m, h => by
    obtain ⟨h1, h2⟩ := h
    simp only [List.map_cons, List.cons.injEq] at h1
    cases h2 with
    | cons e es =>
      obtain ⟨i1, i2⟩ := DM.mapped k d (kvs := kvs) (m := m) ⟨h1.2, es⟩
      by_cases c : k2 = k
      · have c' : k1 = DKey.key k := by rw [← c]; exact h1.1
        refine ⟨?_, ?_⟩
        · rw [List.map_cons, List.map_cons, List.map_cons, List.map_cons, i1, if_pos c, if_pos c']
          show k1 :: _ = DKey.key k2 :: _
          rw [h1.1]
        · rw [List.map_cons, List.map_cons, List.map_cons, List.map_cons, if_pos c, if_pos c']
          exact .cons d i2
      · have c' : ¬ k1 = DKey.key k := fun z => c (DKey.inj (h1.1.symm.trans z))
        refine ⟨?_, ?_⟩
        · rw [List.map_cons, List.map_cons, List.map_cons, List.map_cons, i1, if_neg c, if_neg c']
          show k1 :: _ = DKey.key k2 :: _
          rw [h1.1]
        · rw [List.map_cons, List.map_cons, List.map_cons, List.map_cons, if_neg c, if_neg c']
          exact .cons e i2
theorem DM.put {x : V} {a : α} {k : κ} {kvs : List (DKey.kt κ × V)} {m : Dc κ α} (h : DM K Ho kvs m) (d : Z.D K Ho x a) : DM K Ho (@putK _ DKey.dec kvs (DKey.key k) x) (putM m k a) := by
  unfold putK putM
  rw [@valV_any _ DKey.dec, valM_any, h.some k]
  split
  · exact DM.mapped k d h
  · refine ⟨?_, ?_⟩
    · rw [List.map_append, List.map_append, h.1]; rfl
    · rw [List.map_append, List.map_append]
      exact DL.push h.2 d
theorem DM.mo {kvs : List (DKey.kt κ × V)} {m : Dc κ α} (h : DM K Ho kvs m) (e : Same Ho Ho') : DM K Ho' kvs m := ⟨h.1, DL.mo h.2 e⟩
/-- a dict of its own -/
def OD (K : PySem.W.Frag) (Ho : Hp) (v : V) (m : Dc κ α) (g : Grp) : Prop := ∃ p kvs, v = .ref p ∧ DM K Ho kvs m ∧ g = [(p, DKey.ho (κ := κ) kvs)]
theorem OD.mo {m : Dc κ α} {g : Grp} (h : OD K Ho v m g) (e : Same Ho Ho') : OD K Ho' v m g := by
  obtain ⟨p, kvs, rfl, d, rfl⟩ := h
  exact ⟨p, kvs, rfl, d.mo e, rfl⟩
/-- a dict that is read -/
def BD (K : PySem.W.Frag) (R : Grp) (Ho : Hp) (v : V) (m : Dc κ α) : Prop := ∃ g, OD K Ho v m g ∧ ∀ r ∈ g, r ∈ R
theorem BD.mo {m : Dc κ α} (h : BD K R Ho v m) (e : Same Ho Ho') : BD K R Ho' v m := by
  obtain ⟨g, o, s⟩ := h
  exact ⟨g, o.mo e, s⟩
theorem BD.sub {m : Dc κ α} {R' : Grp} (h : BD K R Ho v m) (e : ∀ r ∈ R, r ∈ R') : BD K R' Ho v m := by
  obtain ⟨g, o, s⟩ := h
  exact ⟨g, o, fun r m => e r (s r m)⟩
theorem BD.rd {m : Dc κ α} (h : BD K R Ho v m) (z : Zs R H Ho) : ∃ p kvs, v = .ref p ∧ DM K Ho kvs m ∧ H p = some (DKey.ho (κ := κ) kvs) := by
  obtain ⟨g, ⟨p, kvs, rfl, d, rfl⟩, s⟩ := h
  exact ⟨p, kvs, rfl, d, (z.rt _ (s _ (List.mem_singleton.mpr rfl))).1⟩
theorem d_o {G : V → Prop} {e : Dc κ α} {g : Grp} {f : Dc κ α → W γ} (hw : (W.bind (W.ret e) f).run Φ) (z : Zs (g ++ R) H Ho) (o : OD K Ho v e g) (k : ∀ x v g, Zs (g ++ R) H Ho → OD K Ho v x g → (f x).run Φ → G v) : LetV G v := k e v g z o hw
theorem g_dnewK (z : Zs R H Ho) (k : ∀ H' v g, Zs (g ++ R) H' Ho → OD K Ho v ([] : Dc Int α) g → Q v H') : tDNewK σ H Q := fun p hp => k _ _ _ (z.root hp) ⟨p, [], rfl, ⟨rfl, .nil⟩, rfl⟩
theorem g_dnewT (z : Zs R H Ho) (k : ∀ H' v g, Zs (g ++ R) H' Ho → OD K Ho v ([] : Dc (Int × Int) α) g → Q v H') : tDNewT σ H Q := fun p hp => k _ _ _ (z.root hp) ⟨p, [], rfl, ⟨rfl, .nil⟩, rfl⟩
/-! reading -/
theorem zsl_tup {X : Cx} (hK : X.K = K) : SlR X (rSlT K) := hK ▸ sl_tup
theorem dpAll_cut {vs : List V} {ds : List PyData} (h : DqAll K H vs ds) (lo hi : Option Int) : DqAll K H (cutV vs lo hi) (Z.cut ds lo hi) := by
  unfold cutV Z.cut
  rw [dpAll_len h]
  exact dpAll_take (dpAll_drop h _) _
theorem y_slT {β δ : Type} [Py β] [Py δ] {x : β} {y : δ} {lo hi : Option Int} (d : Z.D K Ho v x) (z : Zs R H Ho) (hj : ∃ ds, toPy x = .tuple ds ∧ ¬ (HT.sIx ds.length 0 lo = 0 ∧ HT.sIx ds.length ds.length hi = ds.length) ∧ toPy y = .tuple (Z.cut ds lo hi))
    (k : ∀ p H' Ho', Same Ho Ho' → Zs R H' Ho' → Z.D K Ho' (.ref p) y → Q (.ref p) H') : rSlT K v lo hi H Q := by
  obtain ⟨ds, e1, e2, e3⟩ := hj
  have d : Dq K Ho v (toPy x) := d
  rw [e1] at d
  cases d with
  | tup hs ha =>
    refine ⟨_, _, rfl, SqT.of (z.le _ _ hs), by rw [dpAll_len ha]; exact e2, fun q hq => ?_⟩
    have nf := z.free hq
    refine k q _ _ (Same.new nf) (z.alloc hq) ?_
    show Dq K _ _ (toPy y)
    rw [e3]
    exact .tup upd_same (dpAll_mono (Same.new nf) _ _ (dpAll_cut ha lo hi))
/-! tuples of one kind, of any length -/
theorem zsl_tupA {X : Cx} (hK : X.K = K) : SlR X (rSlA K) := hK ▸ sl_tupA
theorem zop_catA {X : Cx} (hK : X.K = K) : OpR X (binaryOp .Add) (rCatA K) := hK ▸ op_catA
theorem y_slTp {β : Type} [Py β] {x : Tp β} {lo hi : Option Int} (d : Z.D K Ho v x) (z : Zs R H Ho) (k : ∀ w H' Ho', Same Ho Ho' → Zs R H' Ho' → Z.D K Ho' w (⟨Z.cut x.l lo hi⟩ : Tp β) → Q w H') : rSlA K v lo hi H Q := by
  have d0 := d
  cases d with
  | tup hs ha =>
    have hl : _ = x.l.length := (dpAll_len ha).trans (by simp)
    refine ⟨_, _, rfl, SqT.of (z.le _ _ hs), fun hw => ?_, fun hn q hq => ?_⟩
    · refine k _ _ _ (Same.refl _) z ?_
      have e : Z.cut x.l lo hi = x.l := by
        unfold Z.cut
        rw [← hl, hw.1, hw.2]
        simp [hl]
      show Z.D K Ho _ (⟨Z.cut x.l lo hi⟩ : Tp β)
      rw [e]
      exact d0
    · have nf := z.free hq
      refine k (.ref q) _ _ (Same.new nf) (z.alloc hq) ?_
      exact .tup upd_same (dpAll_mono (Same.new nf) _ _ (DL.cut (xs := x.l) ha lo hi))
theorem y_catTp {β : Type} [Py β] {x y : Tp β} (d1 : Z.D K Ho v x) (d2 : Z.D K Ho w y) (z : Zs R H Ho) (hg : x.l.length + y.l.length ≤ sizeLine) (k : ∀ u H' Ho', Same Ho Ho' → Zs R H' Ho' → Z.D K Ho' u (⟨x.l ++ y.l⟩ : Tp β) → Q u H') : rCatA K v w H Q := by
  have d1' := d1
  have d2' := d2
  obtain ⟨xs⟩ := x
  obtain ⟨ys⟩ := y
  cases d1 with
  | tup hs ha =>
    cases d2 with
    | tup hs2 ha2 =>
      have hl := dpAll_len ha
      have hl2 := dpAll_len ha2
      rw [List.length_map] at hl hl2
      refine ⟨_, _, _, _, rfl, rfl, SqT.of (z.le _ _ hs), SqT.of (z.le _ _ hs2), by rw [hl, hl2]; exact hg, fun e => ?_, fun _ e => ?_, fun _ _ q hq => ?_⟩
      · refine k _ _ _ (Same.refl _) z ?_
        have : xs = [] := List.length_eq_zero_iff.mp (by rw [← hl, e]; rfl)
        subst this
        exact d2'
      · refine k _ _ _ (Same.refl _) z ?_
        have : ys = [] := List.length_eq_zero_iff.mp (by rw [← hl2, e]; rfl)
        subst this
        show Z.D K Ho _ (⟨xs ++ []⟩ : Tp β)
        rw [List.append_nil]
        exact d1'
      · have nf := z.free hq
        refine k (.ref q) _ _ (Same.new nf) (z.alloc hq) ?_
        exact .tup upd_same (dpAll_mono (Same.new nf) _ _ (DL.append (xs := xs) (ys := ys) ha ha2))
def tp4 {β : Type} : Tp β → Option (P4 β β β β)
  | ⟨[a, b, c, d]⟩ => some ⟨a, b, c, d⟩
  | _ => none
theorem y_tp4 {β : Type} [Py β] {x : Tp β} {f : P4 β β β β → W γ} {P : Prop} (d : Z.D K Ho v x) (hw : (W.bind (W.opt (tp4 x)) f).run Φ) (k : ∀ t, Z.D K Ho v t → (f t).run Φ → P) : P := by
  obtain ⟨t, et, hw⟩ := hw
  refine k t ?_ hw
  obtain ⟨l⟩ := x
  match l, et with
  | [a, b, c, e], rfl => exact d
theorem zmt_indexD {X : Cx} (hK : X.K = K) (hu : X.A.units + 65 < cLine) : MtR X "list.index" (rIndexD K) := hK ▸ mt_indexD hu
/-- the first place of an equal one -/
def idxD {β : Type} [Py β] (x : β) (ys : List β) : Option Int := Option.map (fun n : Nat => (n : Int)) (ys.findIdx? fun y => eqD y x)
theorem d_ref {β : Type} [Py β] {ys : List β} : ∀ {v : V}, Z.D K H v ys → ∃ a, v = .ref a := fun {v} h => by
  obtain ⟨p, vs, e, _⟩ := LV.of (rs := []) h
  exact ⟨p, e⟩
theorem y_index {β : Type} [Py β] {x : β} {ys : List β} {f : Int → W γ} (d1 : Z.D K H w x) (d2 : Z.D K H v ys) (hg : okD x ∧ okD ys) (hw : (W.bind (W.opt (idxD x ys)) f).run Φ) (k : ∀ t, (f t).run Φ → Q (.int t) H) : rIndexD K v [w] H Q := by
  obtain ⟨t, et, hw⟩ := hw
  unfold idxD at et
  rw [Option.map_eq_some_iff] at et
  obtain ⟨n, en, rfl⟩ := et
  obtain ⟨hn, h1, h2⟩ := List.findIdx?_eq_some_iff_getElem.mp en
  obtain ⟨a, rfl⟩ := d_ref d2
  refine ⟨a, w, toPy x, ys.map Py.toPy, n, toPy ys[n], rfl, rfl, Dq.dp _ _ (shp hg.2) d2, Dq.dp _ _ (shp hg.1) d1, hg.2, hg.1, by rw [List.getElem?_map, List.getElem?_eq_getElem hn]; rfl, h1, fun m z' hm e => ?_, k n hw⟩
  rw [List.getElem?_map, List.getElem?_eq_getElem (by omega)] at e
  cases e
  simpa [eqD] using h2 m hm
def GGet (Q : VK) (x y : V) (H : Hp) : Prop := ∃ a v, x = .ref a ∧ DGet H a y (some v) ∧ Q v H
def GIn (Q : VK) (x y : V) (H : Hp) : Prop := ∃ a o, x = .ref a ∧ DGet H a y o ∧ Q (.bl o.isSome) H
def GNotIn (Q : VK) (x y : V) (H : Hp) : Prop := ∃ a o, x = .ref a ∧ DGet H a y o ∧ Q (.bl (!o.isSome)) H
def GGet1 (Q : VK) (a : Addr) (y : V) (H : Hp) : Prop := ∃ o, DGet H a y o ∧ Q (o.getD .non) H
def GGet2 (Q : VK) (a : Addr) (y z : V) (H : Hp) : Prop := ∃ o, DGet H a y o ∧ Q (o.getD z) H
def GPut (N : Hp → Prop) (x y v : V) (H : Hp) : Prop := ∃ a H4, x = .ref a ∧ DPut H a y v H4 ∧ N H4
section
variable {td ty tx tv : TE} {un : TS} {D : Ends}
theorem y_dget (k : td σ H fun x H1 => ty σ H1 fun y H2 => GGet Q x y H2) : tDGet td ty σ H Q := k
theorem y_din (k : ty σ H fun y H1 => td σ H1 fun x H2 => GIn Q x y H2) : tDIn ty td σ H Q := k
theorem y_dnotin (k : ty σ H fun y H1 => td σ H1 fun x H2 => GNotIn Q x y H2) : tDNotIn ty td σ H Q := k
theorem y_dget1 (k : td σ H fun x H1 => ∃ a, x = .ref a ∧ IsD H1 a ∧ ty σ H1 fun y H2 => GGet1 Q a y H2) : tDGet1 td ty σ H Q := k
theorem y_dget2 (k : td σ H fun x H1 => ∃ a, x = .ref a ∧ IsD H1 a ∧ ty σ H1 fun y H2 => tx σ H2 fun z H3 => GGet2 Q a y z H3) : tDGet2 td ty tx σ H Q := k
theorem y_dput (k : tv σ H fun v H1 => td σ H1 fun x H2 => ty σ H2 fun y H3 => GPut (fun H4 => un D σ H4) x y v H3) : tSeq (sDPut td ty tv) un D σ H := k
end
theorem g_dget {m : Dc κ α} {k : κ} {f : α → W γ} (b : BD K R Ho v m) (z : Zs R H Ho) (dk : Z.D K Ho w k) (hw : (W.bind (W.opt (valM m k)) f).run Φ) (kk : ∀ t u, Z.D K Ho u t → (f t).run Φ → Q u H) : GGet Q v w H := by
  obtain ⟨p, kvs, rfl, d, e⟩ := b.rd z
  obtain ⟨a, ea, hw⟩ := hw
  obtain ⟨x, ex, dx⟩ := (d.val k).2 a ea
  exact ⟨p, x, rfl, ex ▸ DKey.get e z.le dk, kk a x dx hw⟩
theorem g_din {m : Dc κ α} {k : κ} (b : BD K R Ho v m) (z : Zs R H Ho) (dk : Z.D K Ho w k) (kk : Q (.bl (valM m k).isSome) H) : GIn Q v w H := by
  obtain ⟨p, kvs, rfl, d, e⟩ := b.rd z
  exact ⟨p, _, rfl, DKey.get e z.le dk, by rw [d.some k]; exact kk⟩
theorem g_dnotin {m : Dc κ α} {k : κ} (b : BD K R Ho v m) (z : Zs R H Ho) (dk : Z.D K Ho w k) (kk : Q (.bl (!(valM m k).isSome)) H) : GNotIn Q v w H := by
  obtain ⟨p, kvs, rfl, d, e⟩ := b.rd z
  exact ⟨p, _, rfl, DKey.get e z.le dk, by rw [d.some k]; exact kk⟩
theorem g_isd {m : Dc κ α} {P : Addr → Prop} (b : BD K R Ho v m) (z : Zs R H Ho) (kk : ∀ a, v = .ref a → P a) : ∃ a, v = .ref a ∧ IsD H a ∧ P a := by
  obtain ⟨p, kvs, rfl, d, e⟩ := b.rd z
  exact ⟨p, rfl, DKey.isd e, kk p rfl⟩
theorem g_dget1 {m : Dc κ α} {k : κ} {a : Addr} (ea : v = .ref a) (b : BD K R Ho v m) (z : Zs R H Ho) (dk : Z.D K Ho w k) (kk : ∀ u, Z.D K Ho u (valM m k) → Q u H) : GGet1 Q a w H := by
  obtain ⟨p, kvs, e1, d, e⟩ := b.rd z
  rw [ea] at e1
  cases e1
  refine ⟨_, DKey.get e z.le dk, kk _ ?_⟩
  obtain ⟨h1, h2⟩ := d.val k
  cases q : valM m k with
  | none => rw [h1 q]; exact .non
  | some x => obtain ⟨y, ey, dy⟩ := h2 x q; rw [ey]; exact dy
theorem g_dget2 {m : Dc κ α} {k : κ} {a : Addr} {x : α} (ea : v = .ref a) (b : BD K R Ho v m) (z : Zs R H Ho) (dk : Z.D K Ho w k) (dx : Z.D K Ho u x) (kk : ∀ y, Z.D K Ho y ((valM m k).getD x) → Q y H) : GGet2 Q a w u H := by
  obtain ⟨p, kvs, e1, d, e⟩ := b.rd z
  rw [ea] at e1
  cases e1
  refine ⟨_, DKey.get e z.le dk, kk _ ?_⟩
  obtain ⟨h1, h2⟩ := d.val k
  cases q : valM m k with
  | none => rw [h1 q]; exact dx
  | some x => obtain ⟨y, ey, dy⟩ := h2 x q; rw [ey]; exact dy
theorem g_dput {m : Dc κ α} {k : κ} {x : α} {g : Grp} {N : Hp → Prop} {f : Dc κ α → W γ} (z : Zs (g ++ R) H Ho) (o : OD K Ho v m g) (dk : Z.D K Ho w k) (dx : Z.D K Ho u x) (hw : (W.bind (putG m k x) f).run Φ) (kk : ∀ m' g' H', Zs (g' ++ R) H' Ho → OD K Ho v m' g' → (f m').run Φ → N H') : GPut N v w u H := by
  obtain ⟨p, kvs, rfl, d, rfl⟩ := o
  obtain ⟨hl, hw⟩ := hw
  exact ⟨p, _, rfl, DKey.put z.head z.le dk (by rw [d.len]; exact hl), kk _ _ _ (z.put (hn := DKey.nt _)) ⟨p, _, rfl, d.put dx, rfl⟩ hw⟩
end
end Z

/-! # d.setdefault(k, v), k a tuple -/
namespace Z
open PySem PySem.Spec PyProof.Rows L2
section
variable {X : Cx} {pins : List (Addr × Obj)} {σ : L2.St} {H : Hp} {s : Shared} {a b : Addr} {kvs : List (List L2.Key × V)} {k : List L2.Key} {z : V} {r : Value} {A : Around} {E : Value → Shared → Prop}
theorem d_setdT {Q : Value → Shared → Prop} (hu : A.units + 1 < cLine) (I : Inv X pins σ H s) (e : H a = some (.dT kvs)) (eb : H b = some (.tup (k.map kV))) (l : kvs.length < sizeLine) (rz : RelV z r)
    (h1 : ∀ u w' s', valV kvs k = some u → RelV u w' → Inv X pins σ H s' → Q w' s') (h2 : valV kvs k = none → ∀ s', Inv X pins σ (upd H a (.dT (putK kvs k z))) s' → Q r s') :
    wpAny (model X.prog X.w) A (call (.builtin "dict.setdefault") [.ref a, .ref b, r]) Q E s := by
  obtain ⟨zz, hd, xs, rel, dd⟩ := dt_of I.hok e
  have hz : xs.length ≤ sizeLine := by rw [← Paired.length rel]; exact zz
  have hl : (putK kvs k z).length ≤ sizeLine := by have := length_putK kvs k z; omega
  have rv := rel.val k
  refine call_setdefault_heap (hsz := hz) (tupleKind_room_in1 hu) (key_of I.hok eb) hd dd (fun p hp => ?_) (fun hn h' dd' hs => ?_)
  · rw [hp] at rv
    cases hv : valV kvs k with
    | none => rw [hv] at rv; cases rv
    | some u =>
      rw [hv] at rv
      obtain ⟨w', hw, rw'⟩ := RelO.some_of (v := u) (o := some p.2) rv
      cases hw
      exact h1 u _ _ hv rw' (I.tok _)
  · rw [hn] at rv
    cases hv : valV kvs k with
    | some u =>
      rw [hv] at rv
      obtain ⟨w', hw, _⟩ := RelO.some_of (v := u) (o := none) rv
      cases hw
    | none =>
      refine h2 hv _ ?_
      obtain ⟨q, es, ep, hq, g2, g3, g4, _, g5⟩ := dd'
      refine d_write I (by rw [e]; exact True.intro) hs ⟨q, hq⟩ ⟨hl, hd, _, (rel.put k eb rz).keeps fun c ys ec => ?_, q, es, ep, hq, g2, g3, g4, g5⟩
      rw [upd_ne (ne_of ec e (fun z => nomatch z))]
      exact ec
def tDSetd (td ty tx : TE) : TE := fun σ H Q => td σ H fun x H1 => ∃ a, x = .ref a ∧ IsD H1 a ∧ ty σ H1 fun y H2 => tx σ H2 fun z H3 => ∃ kvs k b, H3 a = some (.dT kvs) ∧ y = .ref b ∧ H3 b = some (.tup (k.map kV)) ∧ kvs.length < sizeLine ∧
  (∀ u, valV kvs k = some u → Q u H3) ∧ (valV kvs k = none → Q z (upd H3 a (.dT (putK kvs k z))))
theorem pe_dsetd {o e f : Expr} {apos cpos : Pos} {td ty tx : TE} (hu : X.A.units + 1 < cLine) (ho : PE X o td) (he : PE X e ty) (hf : PE X f tx) (m : M2 X o "setdefault" apos e f cpos) : PE X (.Call (.Attribute o "setdefault" apos) [e, f] [] cpos) (tDSetd td ty tx) := by
  refine ⟨fun pins s σ H Q I h => ?_⟩
  refine wpAny_Call_method m.base m.few m.line PySem.F.plainAttrs_dict PySem.F.slot_dict_setdefault PySem.F.type_dict_setdefault (thn (ho.run pins s σ H _ I h) fun u s1 ⟨x, H1, I1, rx, a, ex, d, q1⟩ => ?_)
  subst ex
  obtain rfl : u = Value.ref a := rx
  obtain ⟨t1, t2, _⟩ := isD_at I1 d
  refine ⟨t1, t2, ?_⟩
  rw [m.trees]
  refine Calls.callWith_builtin rfl (Calls.evalArgs_plain (Calls.spliced_cons (thn (he.run pins s1 σ H1 _ I1 q1) fun iv s2 ⟨y, H2, I2, ry, q2⟩ =>
    Calls.spliced_cons (thn (hf.run pins s2 σ H2 _ I2 q2) fun fv s3 ⟨z, H3, I3, rz, kvs, k, b, e1, ey, eb, hl, g1, g2⟩ => Calls.spliced_nil ?_))))
  subst ey
  cases (show iv = Value.ref b from ry)
  exact d_setdT hu I3 e1 eb hl rz (fun u w' s4 hv rw' I4 => ⟨u, H3, I4, rw', g1 u hv⟩) fun hv s4 I4 => ⟨z, _, I4, rz, g2 hv⟩
end
end Z

/-! # a dict of its own whose values are lists of its own -/
namespace Z
open PySem L2
section
variable {K : PySem.W.Frag} {H Ho H' Ho' : Hp} {κ α γ : Type} [Py κ] [DecidableEq κ] [DKey κ] [Py α] {Φ : γ → Prop} {R : Grp} {v w u : V} {Q : VK} {σ : L2.St}
/-- an entry: the key, the list's place, what it holds -/
abbrev Ent (κ : Type) [Py κ] [DKey κ] := DKey.kt κ × (Addr × List V)
inductive EM (K : PySem.W.Frag) (Ho : Hp) : List (Ent κ) → Dc κ (List α) → Prop
  | nil : EM K Ho [] []
  | cons {e : Ent κ} {es : List (Ent κ)} {k : κ} {xs : List α} {m : Dc κ (List α)} (hk : e.1 = DKey.key k) (d : DL K Ho e.2.2 xs) (hn : valM m k = none) (h : EM K Ho es m) : EM K Ho (e :: es) ((k, xs) :: m)
def rowsE (es : List (Ent κ)) : Grp := es.map fun e => (e.2.1, HO.lst e.2.2)
def kvsE (es : List (Ent κ)) : List (DKey.kt κ × V) := es.map fun e => (e.1, V.ref e.2.1)
theorem EM.mo {es : List (Ent κ)} {m : Dc κ (List α)} (h : EM K Ho es m) (e : Same Ho Ho') : EM K Ho' es m := by
  induction h with
  | nil => exact .nil
  | cons hk d hn _ ih => exact .cons hk (DL.mo d e) hn ih
theorem EM.len {es : List (Ent κ)} {m : Dc κ (List α)} (h : EM K Ho es m) : es.length = m.length := by
  induction h with
  | nil => rfl
  | cons _ _ _ _ ih => simp [ih]
theorem valM_put' {k j : κ} {a : α} : ∀ {m : Dc κ α}, valM m j = none → j ≠ k → valM (m.map fun p => if p.1 = k then (p.1, a) else p) j = none
  | [], _, _ => rfl
  | (q, b) :: m, h, hne => by
    by_cases c : q = j
    · simp [valM, c] at h
    · have hm : valM m j = none := by simpa [valM, c] using h
      have ih := valM_put' (a := a) hm hne
      rw [List.map_cons]
      by_cases d : q = k
      · rw [if_pos d]
        simpa [valM, c] using ih
      · rw [if_neg d]
        simpa [valM, c] using ih
theorem map_none {k : κ} {a : α} : ∀ {m : Dc κ α}, valM m k = none → (m.map fun p => if p.1 = k then (p.1, a) else p) = m
  | [], _ => rfl
  | (q, b) :: m, h => by
    by_cases c : q = k
    · simp [valM, c] at h
    · have hm : valM m k = none := by simpa [valM, c] using h
      rw [List.map_cons, if_neg c, map_none hm]
theorem valM_app {k j : κ} {a : α} : ∀ {m : Dc κ α}, valM m j = none → j ≠ k → valM (m ++ [(k, a)]) j = none
  | [], _, hne => by
    have : ¬ k = j := fun e => hne e.symm
    simp [valM, this]
  | (q, b) :: m, h, hne => by
    by_cases c : q = j
    · simp [valM, c] at h
    · have hm : valM m j = none := by simpa [valM, c] using h
      have ih := valM_app (a := a) hm hne
      rw [List.cons_append]
      simpa [valM, c] using ih
/-- a new entry -/
theorem EM.snoc {es : List (Ent κ)} {m : Dc κ (List α)} (h : EM K Ho es m) {k : κ} (hn : valM m k = none) (q : Addr) : EM K Ho (es ++ [(DKey.key k, q, [])]) (m ++ [(k, [])]) := by
  induction h with
  | nil => exact .cons rfl .nil rfl .nil
  | @cons e es k1 xs m hk d h0 h ih =>
    have c : k1 ≠ k := fun c => by simp [valM, c] at hn
    have hm : valM m k = none := by simpa [valM, c] using hn
    exact .cons hk d (valM_app h0 c) (ih hm)
/-- all lists stand for good from now on -/
theorem EM.fr {es : List (Ent κ)} {m : Dc κ (List α)} (h : EM K Ho es m) : ∀ {R : Grp}, Zs (rowsE es ++ R) H Ho → ∃ Ho', Same Ho Ho' ∧ Zs R H Ho' ∧ DL K Ho' ((kvsE es).map (·.2)) (m.map (·.2)) := by
  induction h with
  | nil => exact fun z => ⟨Ho, Same.refl _, z, .nil⟩
  | @cons e es k xs m hk d hn h ih =>
    intro R z
    have z1 : Zs ((e.2.1, HO.lst e.2.2) :: (rowsE es ++ R)) H Ho := z
    have z2 : Zs (rowsE es ++ ((e.2.1, HO.lst e.2.2) :: R)) H Ho := z1.perm List.perm_middle.symm
    obtain ⟨Ho1, s1, z3, d1⟩ := ih z2
    obtain ⟨Ho2, s2, z4, d2⟩ := OL.fr (R := R) (OL.mk (p := e.2.1) (DL.mo d s1)) z3
    exact ⟨Ho2, s1.trans s2, z4, .cons d2 (DL.mo d1 s2)⟩
/-- the entry of a key -/
theorem EM.val {es : List (Ent κ)} {m : Dc κ (List α)} (h : EM K Ho es m) (k : κ) : (valM m k = none ∧ @valV _ DKey.dec (kvsE es) (DKey.key k) = none) ∨
    ∃ (i : Nat) (e : Ent κ) (xs : List α), es[i]? = some e ∧ valM m k = some xs ∧ @valV _ DKey.dec (kvsE es) (DKey.key k) = some (.ref e.2.1) ∧ DL K Ho e.2.2 xs ∧
      ∀ (w : V) (x : α), Z.D K Ho w x → EM K Ho (es.set i (e.1, e.2.1, e.2.2 ++ [w])) (putM m k (xs ++ [x])) := by
  induction h with
  | nil => exact .inl ⟨rfl, rfl⟩
  | @cons e es k1 xs m hk d hn h ih =>
    by_cases c : k1 = k
    · subst c
      refine .inr ⟨0, e, xs, rfl, by simp [valM], ?_, d, fun w x dw => ?_⟩
      · exact @valV_pos _ DKey.dec (e.1, V.ref e.2.1) (kvsE es) (DKey.key k1) hk
      · have hm : putM ((k1, xs) :: m) k1 (xs ++ [x]) = (k1, xs ++ [x]) :: m := by
          unfold putM
          rw [List.any_cons, decide_eq_true rfl, Bool.true_or, if_pos rfl, List.map_cons, if_pos rfl, map_none hn]
        rw [hm]
        exact .cons hk (DL.push d dw) hn h
    · have e1 : ∀ {m : Dc κ (List α)}, valM ((k1, xs) :: m) k = valM m k := by intro m; simp [valM, c]
      have e2 : @valV _ DKey.dec (kvsE (e :: es)) (DKey.key k) = @valV _ DKey.dec (kvsE es) (DKey.key k) := @valV_neg _ DKey.dec (e.1, V.ref e.2.1) (kvsE es) (DKey.key k) (fun z => c (DKey.inj (hk.symm.trans z)))
      rcases ih with ⟨a, b⟩ | ⟨i, e', ys, g1, g2, g3, g4, g5⟩
      · exact .inl ⟨e1.trans a, e2.trans b⟩
      · refine .inr ⟨i + 1, e', ys, g1, e1.trans g2, e2.trans g3, g4, fun w x dw => ?_⟩
        have hm : putM ((k1, xs) :: m) k (ys ++ [x]) = (k1, xs) :: putM m k (ys ++ [x]) := by
          have ha : (m.any fun p => decide (p.1 = k)) = true := by rw [valM_any, g2]; rfl
          unfold putM
          rw [List.any_cons, ha, Bool.or_true, if_pos rfl, if_pos rfl, List.map_cons, if_neg c]
        rw [hm]
        refine .cons hk d ?_ (g5 w x dw)
        have ha : (m.any fun p => decide (p.1 = k)) = true := by rw [valM_any, g2]; rfl
        unfold putM
        rw [if_pos ha]
        exact valM_put' hn c
/-- a dict of its own, its values lists of its own -/
def OT (K : PySem.W.Frag) (Ho : Hp) (v : V) (m : Dc κ (List α)) (g : Grp) : Prop := ∃ p es, v = .ref p ∧ EM K Ho es m ∧ g = (p, DKey.ho (κ := κ) (kvsE es)) :: rowsE es
theorem OT.mo {m : Dc κ (List α)} {g : Grp} (h : OT K Ho v m g) (e : Same Ho Ho') : OT K Ho' v m g := by
  obtain ⟨p, es, rfl, d, rfl⟩ := h
  exact ⟨p, es, rfl, d.mo e, rfl⟩
theorem EM.keys {es : List (Ent κ)} {m : Dc κ (List α)} (h : EM K Ho es m) : (kvsE es).map (·.1) = m.map fun p => DKey.key p.1 := by
  induction h with
  | nil => rfl
  | cons hk _ _ _ ih => unfold kvsE at ih ⊢; rw [List.map_cons, List.map_cons, List.map_cons, ih, hk]
/-- its lists stand for good from now on -/
theorem OT.fr {m : Dc κ (List α)} {g : Grp} (h : OT K Ho v m g) (z : Zs (g ++ R) H Ho) : ∃ Ho' g', Same Ho Ho' ∧ Zs (g' ++ R) H Ho' ∧ OD K Ho' v m g' := by
  obtain ⟨p, es, rfl, d, rfl⟩ := h
  have z1 : Zs ((p, DKey.ho (κ := κ) (kvsE es)) :: (rowsE es ++ R)) H Ho := z
  obtain ⟨Ho', s, z2, dl⟩ := d.fr (z1.perm List.perm_middle.symm)
  exact ⟨Ho', [(p, DKey.ho (κ := κ) (kvsE es))], s, z2, p, kvsE es, rfl, ⟨d.keys, dl⟩, rfl⟩
/-- where the list of a key stands -/
def OTat (K : PySem.W.Frag) (Ho : Hp) (v : V) (m : Dc κ (List α)) (k : κ) (u : V) (g : Grp) : Prop := ∃ p es, v = .ref p ∧ EM K Ho es m ∧ g = (p, DKey.ho (κ := κ) (kvsE es)) :: rowsE es ∧ @valV _ DKey.dec (kvsE es) (DKey.key k) = some u
theorem OTat.mo {m : Dc κ (List α)} {k : κ} {g : Grp} (h : OTat K Ho v m k u g) (e : Same Ho Ho') : OTat K Ho' v m k u g := by
  obtain ⟨p, es, rfl, d, rfl, hv⟩ := h
  exact ⟨p, es, rfl, d.mo e, rfl, hv⟩
theorem EM.at {es : List (Ent κ)} {m : Dc κ (List α)} {p : Addr} {k : κ} (h : EM K Ho es m) (hs : (valM m k).isSome = true) : ∃ e : Ent κ, @valV _ DKey.dec (kvsE es) (DKey.key k) = some (.ref e.2.1) ∧ OTat K Ho (.ref p) m k (.ref e.2.1) ((p, DKey.ho (κ := κ) (kvsE es)) :: rowsE es) := by
  rcases h.val k with ⟨a, _⟩ | ⟨i, e, xs, g1, g2, g3, g4, g5⟩
  · rw [a] at hs; cases hs
  · exact ⟨e, g3, p, es, rfl, h, rfl, g3⟩
theorem row_at {es : List (Ent κ)} {i : Nat} {e : Ent κ} {p : Addr} (g1 : es[i]? = some e) : (((p, DKey.ho (κ := κ) (kvsE es)) :: rowsE es) ++ R)[i + 1]? = some (e.2.1, HO.lst e.2.2) := by
  have hi := (List.getElem?_eq_some_iff.mp g1).1
  show (rowsE es ++ R)[i]? = _
  rw [List.getElem?_append_left (by unfold rowsE; rw [List.length_map]; exact hi)]
  unfold rowsE
  rw [List.getElem?_map, g1]
  rfl
theorem g_tyAt {P : Prop} {m : Dc κ (List α)} {k : κ} {g : Grp} (z : Zs (g ++ R) H Ho) (o : OTat K Ho v m k u g) (kk : P) : tyV K "list" u H ∧ P := by
  obtain ⟨p, es, rfl, h, rfl, hv⟩ := o
  rcases h.val k with ⟨_, c⟩ | ⟨i, e, xs, g1, g2, g3, g4, g5⟩
  · rw [c] at hv; cases hv
  · have : u = .ref e.2.1 := Option.some.inj (hv.symm.trans g3)
    subst this
    exact ⟨.inl ⟨rfl, _, SqL.of (z.rt _ (List.mem_of_getElem? (row_at g1))).1⟩, kk⟩
theorem g_isdT {m : Dc κ (List α)} {g : Grp} {P : Addr → Prop} (z : Zs (g ++ R) H Ho) (o : OT K Ho v m g) (kk : ∀ a, v = .ref a → P a) : ∃ a, v = .ref a ∧ IsD H a ∧ P a := by
  obtain ⟨p, es, rfl, h, rfl⟩ := o
  exact ⟨p, rfl, DKey.isd (z.rt _ List.mem_cons_self).1, kk p rfl⟩
theorem g_appAt {m : Dc κ (List α)} {k : κ} {x : α} {g : Grp} (z : Zs (g ++ R) H Ho) (o : OTat K Ho v m k u g) (dx : Z.D K Ho w x) (hl : ∀ xs, valM m k = some xs → xs.length < sizeLine) (kk : ∀ m' g' H', (∀ xs, valM m k = some xs → m' = putM m k (xs ++ [x])) → Zs (g' ++ R) H' Ho → OT K Ho v m' g' → Q .non H') : rAppend u [w] H Q := by
  obtain ⟨p, es, rfl, h, rfl, hv⟩ := o
  rcases h.val k with ⟨_, c⟩ | ⟨i, e, xs, g1, g2, g3, g4, g5⟩
  · rw [c] at hv; cases hv
  have hu : u = .ref e.2.1 := Option.some.inj (hv.symm.trans g3)
  subst hu
  have hr : (((p, DKey.ho (κ := κ) (kvsE es)) :: rowsE es) ++ R)[i + 1]? = some (e.2.1, HO.lst e.2.2) := by
    have hi := (List.getElem?_eq_some_iff.mp g1).1
    show (rowsE es ++ R)[i]? = _
    rw [List.getElem?_append_left (by unfold rowsE; rw [List.length_map]; exact hi)]
    unfold rowsE
    rw [List.getElem?_map, g1]
    rfl
  refine ⟨e.2.1, e.2.2, w, rfl, rfl, (z.rt _ (List.mem_of_getElem? hr)).1, by rw [DL.len g4]; exact hl xs g2, ?_⟩
  have z2 := z.putI (o' := HO.lst (e.2.2 ++ [w])) hr
  refine kk (putM m k (xs ++ [x])) (((p, DKey.ho (κ := κ) (kvsE (es.set i (e.1, e.2.1, e.2.2 ++ [w]))))) :: rowsE (es.set i (e.1, e.2.1, e.2.2 ++ [w]))) _ (fun ys hy => by rw [g2] at hy; cases hy; rfl) ?_ ⟨p, _, rfl, g5 w x dx, rfl⟩
  have e1 : kvsE (es.set i (e.1, e.2.1, e.2.2 ++ [w])) = kvsE es := by
    unfold kvsE
    rw [List.map_set]
    apply List.ext_getElem?
    intro j
    rw [List.getElem?_set]
    split
    · rename_i c
      subst c
      split
      · rw [List.getElem?_map, g1]; rfl
      · rename_i c
        rw [List.getElem?_eq_none (by omega)]
    · rfl
  have e2 : rowsE (es.set i (e.1, e.2.1, e.2.2 ++ [w])) = (rowsE es).set i (e.2.1, HO.lst (e.2.2 ++ [w])) := by
    unfold rowsE
    rw [List.map_set]
  rw [e1, e2]
  have hi := (List.getElem?_eq_some_iff.mp g1).1
  have e3 : (((p, DKey.ho (κ := κ) (kvsE es)) :: rowsE es) ++ R).set (i + 1) (e.2.1, HO.lst (e.2.2 ++ [w])) = ((p, DKey.ho (κ := κ) (kvsE es)) :: (rowsE es).set i (e.2.1, HO.lst (e.2.2 ++ [w]))) ++ R := by
    show _ :: (rowsE es ++ R).set i _ = _ :: ((rowsE es).set i _ ++ R)
    rw [List.set_append_left _ _ (by unfold rowsE; rw [List.length_map]; exact hi)]
  rw [← e3]
  exact z2
/-- d.setdefault(k, []) -/
def setd (m : Dc κ (List α)) (k : κ) : Dc κ (List α) := if (valM m k).isSome = true then m else m ++ [(k, [])]
theorem valM_new {k : κ} {a : List α} : ∀ {m : Dc κ (List α)}, valM m k = none → valM (m ++ [(k, a)]) k = some a
  | [], _ => by simp [valM]
  | (q, b) :: m, h => by
    by_cases c : q = k
    · simp [valM, c] at h
    · have hm : valM m k = none := by simpa [valM, c] using h
      have ih := valM_new (a := a) hm
      rw [List.cons_append]
      simpa [valM, c] using ih
theorem dkT {k : Int × Int} (d : Z.D K Ho w k) : ∃ b, w = .ref b ∧ Ho b = some (.tup ((DKey.key k : List L2.Key).map kV)) := by
  cases d with
  | tup hs ha =>
    cases ha with
    | cons h1 h2 =>
      cases h2 with
      | cons h3 h4 =>
        cases h4
        rw [d_int h1, d_int h3] at hs
        exact ⟨_, rfl, hs⟩
end
section
variable {K : PySem.W.Frag} {H Ho : Hp} {α : Type} [Py α] {R : Grp} {v w : V} {Q : VK}
def GSetd (Q : VK) (a : Addr) (y z : V) (H : Hp) : Prop := ∃ kvs k b, H a = some (.dT kvs) ∧ y = .ref b ∧ H b = some (.tup (k.map kV)) ∧ kvs.length < sizeLine ∧
  (∀ u, valV kvs k = some u → Q u H) ∧ (valV kvs k = none → Q z (upd H a (.dT (putK kvs k z))))
theorem g_setd {m : Dc (Int × Int) (List α)} {k : Int × Int} {g : Grp} {a q : Addr} (ea : v = .ref a) (z : Zs ([(q, HO.lst [])] ++ (g ++ R)) H Ho) (o : OT K Ho v m g) (dk : Z.D K Ho w k) (hl : m.length < sizeLine)
    (kk : ∀ u g' H', Zs (g' ++ R) H' Ho → OTat K Ho v (setd m k) k u g' → Q u H') : GSetd Q a w (.ref q) H := by
  obtain ⟨p, es, e1, h, rfl⟩ := o
  rw [ea] at e1
  cases e1
  subst ea
  obtain ⟨b, rfl, hb⟩ := dkT dk
  have z0 : Zs ((q, HO.lst []) :: (a, HO.dT (kvsE es)) :: (rowsE es ++ R)) H Ho := z
  refine ⟨kvsE es, DKey.key k, b, (z0.rt _ (List.mem_cons_of_mem _ List.mem_cons_self)).1, rfl, z.le _ _ hb, ?_, fun u hu => ?_, fun hn => ?_⟩
  · unfold kvsE; rw [List.length_map, h.len]; exact hl
  · have hs : (valM m k).isSome = true := by
      rcases h.val k with ⟨_, c⟩ | ⟨i, e, xs, _, c, _⟩
      · have : (none : Option V) = some u := c.symm.trans hu
        cases this
      · rw [c]; rfl
    have es' : setd m k = m := if_pos hs
    obtain ⟨e, he, ha⟩ := EM.at (p := a) h hs
    have hue : u = .ref e.2.1 := Option.some.inj (hu.symm.trans he)
    rw [hue]
    exact kk _ _ _ (Zs.tail z0) (by rw [es']; exact ha)
  · have hs : valM m k = none := by
      rcases h.val k with ⟨c, _⟩ | ⟨i, e, xs, _, _, c, _⟩
      · exact c
      · have : (some (V.ref e.2.1) : Option V) = none := c.symm.trans hn
        cases this
    have es' : setd m k = m ++ [(k, [])] := if_neg (by rw [hs]; exact Bool.false_ne_true)
    have h' := h.snoc hs q
    have hp : putK (κ := List L2.Key) (kvsE es) (DKey.key k : List L2.Key) (.ref q) = kvsE (es ++ [((DKey.key k : List L2.Key), q, [])]) := by
      rw [putK_new _ hn]
      unfold kvsE
      rw [List.map_append]
      rfl
    rw [hp]
    obtain ⟨e, he, ha⟩ := EM.at (p := a) (k := k) h' (by rw [valM_new hs]; rfl)
    have z1 : Zs ((a, HO.dT (kvsE es)) :: ((rowsE es ++ [(q, HO.lst [])]) ++ R)) H Ho := z0.perm (by
      refine (List.Perm.swap _ _ _).trans (List.Perm.cons _ ?_)
      rw [List.append_assoc]
      exact List.perm_middle.symm)
    have z2 := z1.put (o' := HO.dT (kvsE (es ++ [((DKey.key k : List L2.Key), q, [])])))
    have hr : rowsE (es ++ [((DKey.key k : List L2.Key), q, [])]) = rowsE es ++ [(q, HO.lst [])] := by unfold rowsE; rw [List.map_append]; rfl
    have hq : e.2.1 = q := by
      have hv : valV (κ := List L2.Key) (kvsE (es ++ [((DKey.key k : List L2.Key), q, [])])) (DKey.key k : List L2.Key) = some (.ref q) := by
        rw [← hp, valV_put, if_pos rfl]
      have := Option.some.inj (he.symm.trans hv)
      cases this; rfl
    rw [hq] at ha
    refine kk _ _ _ ?_ (by rw [es']; exact ha)
    rw [hr]
    exact z2
variable {td ty tx : TE} {σ : L2.St} {γ : Type} {Φ : γ → Prop}
theorem y_dsetd (k : td σ H fun x H1 => ∃ a, x = .ref a ∧ IsD H1 a ∧ ty σ H1 fun y H2 => tx σ H2 fun z H3 => GSetd Q a y z H3) : tDSetd td ty tx σ H Q := k
theorem g_dnewTo (z : Zs R H Ho) (k : ∀ H' v g, Zs (g ++ R) H' Ho → OT K Ho v ([] : Dc (Int × Int) (List α)) g → Q v H') : tDNewT σ H Q := fun p hp => k _ _ _ (z.root hp) ⟨p, [], rfl, .nil, rfl⟩
theorem t_o {G : V → Prop} {e : Dc (Int × Int) (List α)} {g : Grp} {f : Dc (Int × Int) (List α) → W γ} (hw : (W.bind (W.ret e) f).run Φ) (z : Zs (g ++ R) H Ho) (o : OT K Ho v e g) (k : ∀ x v g, Zs (g ++ R) H Ho → OT K Ho v x g → (f x).run Φ → G v) : LetV G v := k e v g z o hw
/-- d.setdefault(k, []).append(x) -/
def sdApp {κ : Type} [DecidableEq κ] (m : Dc κ (List α)) (k : κ) (x : α) : W (Dc κ (List α)) := W.guard (m.length < sizeLine ∧ ((valM m k).getD []).length < sizeLine) (W.ret (putM (setd m k) k ((valM m k).getD [] ++ [x])))
end
end Z

/-! # what is one's own is lent for a call; `is` of bools; count; isinstance of any value -/
namespace Z
open PySem PySem.Spec PyProof.Rows L2
section
variable {K : PySem.W.Frag} {H Ho H' Ho' : Hp} {κ α γ : Type} [Py κ] [DecidableEq κ] [DKey κ] [Py α] {Φ : γ → Prop} {R : Grp} {v w u : V} {Q : VK} {σ : L2.St}
theorem l_lend {P : Prop} {xs : List α} {g : Grp} (o : OL K Ho v xs g) (z : Zs (g ++ R) H Ho) (k : ∀ Ho', Same Ho Ho' → Zs R H Ho' → Z.D K Ho' v xs → (∀ H2 Ho2, Same Ho' Ho2 → Zs R H2 Ho2 → Zs (g ++ R) H2 Ho) → P) : P := by
  obtain ⟨p, vs, rfl, d, rfl⟩ := o
  have z0 : Zs ((p, HO.lst vs) :: R) H Ho := z
  have hs : Same Ho (upd Ho p (.lst vs)) := Same.new z0.headN
  refine k (upd Ho p (.lst vs)) hs z0.freeze (.lst (SqL.of upd_same) (DL.mo d hs)) (fun H2 Ho2 s z2 => ?_)
  have hp : Ho2 p = some (.lst vs) := s _ _ upd_same
  refine ⟨fun b x e => z2.le _ _ (s _ _ (hs _ _ e)), fun r hr => ?_, z0.nd, z0.nt⟩
  rcases List.mem_cons.mp hr with e | hr
  · subst e
    exact ⟨z2.le _ _ hp, z0.headN⟩
  · exact ⟨(z2.rt r hr).1, (z0.rt r (List.mem_cons_of_mem _ hr)).2⟩
theorem p_again {P : Prop} {rs : Grp} (z : Zs rs H Ho) (k : ∀ Ho', Same Ho Ho' → Zs rs H Ho' → P) : P := k Ho (Same.refl _) z
theorem t_fr {P : Prop} {m : Dc κ (List α)} {g : Grp} (o : OT K Ho v m g) (z : Zs (g ++ R) H Ho) (k : ∀ Ho' g', Same Ho Ho' → Zs (g' ++ R) H Ho' → OD K Ho' v m g' → P) : P := by
  obtain ⟨Ho', g', s, z', o'⟩ := o.fr z
  exact k Ho' g' s z' o'
theorem valM_setd {m : Dc κ (List α)} {k : κ} : valM (setd m k) k = some ((valM m k).getD []) := by
  unfold setd
  cases h : valM m k with
  | none => rw [if_neg (by simp)]; exact valM_new h
  | some xs => rw [if_pos (by simp), h]; rfl
theorem sd_h1 {m : Dc κ (List α)} {k : κ} {x : α} {f : Dc κ (List α) → W γ} (hw : (W.bind (sdApp m k x) f).run Φ) : m.length < sizeLine := hw.1.1
theorem sd_h2 {m : Dc κ (List α)} {k : κ} {x : α} {f : Dc κ (List α) → W γ} (hw : (W.bind (sdApp m k x) f).run Φ) (xs : List α) (h : valM (setd m k) k = some xs) : xs.length < sizeLine := by
  rw [valM_setd] at h
  cases h
  exact hw.1.2
theorem sd_run {m m' : Dc κ (List α)} {k : κ} {x : α} {g : Grp} {f : Dc κ (List α) → W γ} (hw : (W.bind (sdApp m k x) f).run Φ) (hm : ∀ xs, valM (setd m k) k = some xs → m' = putM (setd m k) k (xs ++ [x])) (o : OT K Ho v m' g) : ∃ q, OT K Ho v q g ∧ (f q).run Φ := by
  rw [hm _ valM_setd] at o
  exact ⟨_, o, hw.2⟩
end
section
variable {X : Cx}
theorem bl_beq (a b : Bool) : (Value.bool a == Value.bool b) = decide (a = b) := by
  by_cases e : a = b
  · subst e
    exact (beq_self_eq_true (Value.bool a)).trans (decide_eq_true (p := a = a) rfl).symm
  · exact (beq_eq_false_iff_ne.mpr fun z => e (Value.bool.inj z)).trans (decide_eq_false e).symm
def rIsB : R2 := fun x y H Q => ∃ a b, x = .bl a ∧ y = .bl b ∧ Q (.bl (decide (a = b))) H
def rNotB : R2 := fun x y H Q => ∃ a b, x = .bl a ∧ y = .bl b ∧ Q (.bl (!decide (a = b))) H
theorem op_isB : OpR X (compareOp .Is) rIsB := by
  intro pins s σ H x y v u Q I rx ry h
  obtain ⟨a, b, rfl, rfl, q⟩ := h
  cases (show v = Value.bool a from rx)
  cases (show u = Value.bool b from ry)
  exact wpAny_is_plain rfl (fin_bl I q (bl_beq a b).symm)
theorem op_notB : OpR X (compareOp .IsNot) rNotB := by
  intro pins s σ H x y v u Q I rx ry h
  obtain ⟨a, b, rfl, rfl, q⟩ := h
  cases (show v = Value.bool a from rx)
  cases (show u = Value.bool b from ry)
  exact wpAny_isNot_plain rfl (fin_bl I q (congrArg not (bl_beq a b).symm))
end
section
variable {K : PySem.W.Frag} {H Ho : Hp} {R : Grp} {v w : V} {Q : VK} {α : Type} [Py α]
theorem y_isB {a b : Bool} (k : Q (.bl (decide (a = b))) H) : rIsB (.bl a) (.bl b) H Q := ⟨a, b, rfl, rfl, k⟩
theorem y_notB {a b : Bool} (k : Q (.bl (!decide (a = b))) H) : rNotB (.bl a) (.bl b) H Q := ⟨a, b, rfl, rfl, k⟩
theorem zmt_cnt {X : Cx} (hK : X.K = K) : MtR X "list.count" (rCntI K) := hK ▸ mt_lcount
def cntZ (xs : List Int) (k : Int) : Int := ((xs.count k : Nat) : Int)
theorem y_cnt {xs : List Int} {k : Int} (d : LV K R Ho v xs) (z : Zs R H Ho) (kk : Q (.int (cntZ xs k)) H) : rCntI K v [.int k] H Q := by
  obtain ⟨p, vs, rfl, d, s⟩ := d.rd z
  rw [dl_ints d] at s
  exact ⟨p, xs, k, rfl, rfl, s, kk⟩
def pyK : PyData → String
  | .none => "NoneType" | .bool _ => "bool" | .int _ => "int" | .str _ => "str" | .list _ => "list" | .tuple _ => "tuple" | .dict _ => "dict"
def isP (x : PyData) (T : String) : Bool := (kitB (pyK x) T).getD false
/-- no instance -/
def okP (y : PyData) : Prop := ∀ l, y ≠ .dict l
theorem y_isiP {x : α} {T : String} (d : Z.D K H v x) (hg : okP (toPy x)) (h : (["NoneType", "bool", "int", "str", "list", "tuple", "dict"].all fun k => (kitB k T).isSome) = true) (k : Q (.bl (isP (toPy x) T)) H) : rIsi K [v, .ty T] H Q := by
  have hs : (kitB (pyK (toPy x)) T).isSome = true := by
    refine (List.all_eq_true.mp h) _ ?_
    cases toPy x <;> simp [pyK]
  obtain ⟨b, hb⟩ := Option.isSome_iff_exists.mp hs
  have e : isP (toPy x) T = b := by unfold isP; rw [hb]; rfl
  rw [e] at k
  refine ⟨v, .ty T, _, .type T, b, rfl, .ty T, ?_, kit_ty hb, k⟩
  have d : Dq K H v (toPy x) := d
  generalize toPy x = y at d hg
  cases d with
  | ins _ _ _ => exact absurd rfl (hg _)
  | non => exact .base .non
  | bl b => exact .base (.bl _)
  | int i => exact .base (.int _)
  | str s => exact .base (.str _)
  | lst hs _ => exact tyx_list hs
  | tup hs _ => exact tyx_tup (SqT.of hs)
end
/-! methods inside a comprehension: the written part is named outside -/
section
variable {X : Cx} {K : PySem.W.Frag} {o e : Expr} {es : List Expr} {to : TE} {t : TA} {name : Str} {apos cpos : Pos} {T id : String} {r : V → List V → Hp → VK → Prop}
theorem zpe_bm (hK : X.K = K) (pa : PlainAttrs T) (slot : Slot T name id) (hty : typeOf (.builtin id) = pure (.type "method_descriptor")) (hm : MtR X id r) (ho : PE X o to) (ha : PA X (e :: es) t)
    (hbase : attributeBase o name X.env (eval o X.env) = eval o X.env := by rfl)
    (hfew : ((backTo cpos (starEach (e :: es) X.env)).all (fun x => !x.1) && (backToKw cpos (keywordEach [] X.env)).all (fun x => x.1.isSome)
      && decide ((e :: es).length + ([] : List Keyword).length + (if ([] : List Keyword).isEmpty then 0 else 1) < 30)) = true := by rfl)
    (hline : (apos.endLine == cpos.line) = true := by rfl) (hs : starEach (e :: es) X.env = (false, eval e X.env) :: starEach es X.env := by rfl) (hplain : (backTo cpos (starEach es X.env)).any (·.1) = false := by rfl) :
    PE X (.Call (.Attribute o name apos) (e :: es) [] cpos) (tBM K T r to t) := hK ▸ pe_bm pa slot hty hm ho ha hbase hfew hline hs hplain
theorem zpe_bm0 (hK : X.K = K) (pa : PlainAttrs T) (slot : Slot T name id) (hty : typeOf (.builtin id) = pure (.type "method_descriptor")) (hm : MtR X id r) (ho : PE X o to)
    (hbase : attributeBase o name X.env (eval o X.env) = eval o X.env := by rfl) (hline : (apos.endLine == cpos.line) = true := by rfl) : PE X (.Call (.Attribute o name apos) [] [] cpos) (tBM0 K T r to) := hK ▸ pe_bm0 pa slot hty hm ho hbase hline
end
end Z

/-! # texts -/
namespace Z
open PySem PySem.Spec PyProof.Rows L2
section
variable {K : PySem.W.Frag} {H Ho : Hp} {R : Grp} {v w : V} {Q : VK} {σ : L2.St} {te to : TE} {X : Cx}
def strI (i : Int) : Str := toString i
def CStr (i : Int) : Prop := i.natAbs.log2 < 1920
def rCatStr : R2 := fun x y H Q => ∃ i j, x = .str i ∧ y = .str j ∧ i.length + j.length ≤ sizeLine ∧ Q (.str (i ++ j)) H
theorem zop_catStr : OpR X (binaryOp .Add) rCatStr := op_add_str
theorem y_catStr {a b : Str} (hg : a.length + b.length ≤ sizeLine) (k : Q (.str (a ++ b)) H) : rCatStr (.str a) (.str b) H Q := ⟨a, b, rfl, rfl, hg, k⟩
def rStrI : List V → Hp → VK → Prop := fun xs H Q => ∃ i, xs = [.int i] ∧ i.natAbs.log2 < 1920 ∧ Q (.str (toString i)) H
theorem zstrI : CallR X (.type "str") rStrI := call_str_int
theorem y_strI {i : Int} (hg : CStr i) (k : Q (.str (strI i)) H) : rStrI [.int i] H Q := ⟨i, rfl, hg, k⟩
theorem dl_strs {vs : List V} : ∀ {xs : List Str}, DL K H vs xs → vs = xs.map V.str := by
  induction vs with
  | nil => intro xs h; cases xs with | nil => rfl | cons x xs => cases h
  | cons v vs ih =>
    intro xs h
    cases xs with
    | nil => cases h
    | cons x xs => cases h with | cons h1 h2 => rw [ih h2, d_str h1]; rfl
def rJoin (K : PySem.W.Frag) : V → List V → Hp → VK → Prop := fun x xs H Q => ∃ a p, ∃ ys : List Str, x = .str a ∧ xs = [.ref p] ∧ (SqL K H p (ys.map V.str) ∨ SqT K H p (ys.map V.str)) ∧ (ys.map (·.length)).sum + ys.length * a.length ≤ 16777216 ∧ Q (.str (Txt.join a ys)) H
theorem zmt_join (hK : X.K = K) : MtR X "str.join" (rJoin K) := hK ▸ mt_join
def JoinG (a : Str) (ys : List Str) : Prop := (ys.map (·.length)).sum + ys.length * a.length ≤ 16777216
theorem y_sjoin {a : Str} {ys : List Str} (d : LV K R Ho w ys) (z : Zs R H Ho) (hg : JoinG a ys) (k : Q (.str (Txt.join a ys)) H) : rJoin K (.str a) [w] H Q := by
  obtain ⟨p, vs, rfl, d, s⟩ := d.rd z
  rw [dl_strs d] at s
  exact ⟨a, p, ys, rfl, rfl, .inl s, hg, k⟩
def StrR (r : V → List V → Hp → VK → Prop) (te : TE) (σ : L2.St) (Q : VK) (x : V) (H1 : Hp) : Prop := (∃ a, x = .str a) ∧ te σ H1 fun y H2 => r x [y] H2 Q
theorem y_tm1 {r : V → List V → Hp → VK → Prop} (k : to σ H fun x H1 => StrR r te σ Q x H1) : tM1 r to te σ H Q := k
theorem y_tm1s {r : V → List V → Hp → VK → Prop} {a : Str} (k : te σ H fun y H2 => r (.str a) [y] H2 Q) : StrR r te σ Q (.str a) H := ⟨⟨a, rfl⟩, k⟩
/-! f-strings -/
def tFs (ts : List TE) : TE := fun σ H Q => tJs ts Str.empty σ H fun out H1 => Q (.str out) H1
theorem zpe_fs {v1 v2 : Expr} {rest : List Expr} {ts : List TE} {pos : Pos} (h : PJ X (v1 :: v2 :: rest) ts) : PE X (.JoinedStr (v1 :: v2 :: rest) pos) (tFs ts) := pe_joined h
def JsC (ts : List TE) (acc : Str) (σ : L2.St) (QJ : Str → Hp → Prop) (x : V) (H1 : Hp) : Prop := ∃ y : Str, x = .str y ∧ (acc ++ y).length ≤ sizeLine ∧ tJs ts (acc ++ y) σ H1 QJ
theorem y_fs {ts : List TE} (k : tJs ts Str.empty σ H fun out H1 => Q (.str out) H1) : tFs ts σ H Q := k
theorem y_jsC {t : TE} {ts : List TE} {acc : Str} {QJ : Str → Hp → Prop} (k : t σ H fun x H1 => JsC ts acc σ QJ x H1) : tJs (t :: ts) acc σ H QJ := k
theorem y_jsS {ts : List TE} {acc y : Str} {QJ : Str → Hp → Prop} (hg : (acc ++ y).length ≤ sizeLine) (k : tJs ts (acc ++ y) σ H QJ) : JsC ts acc σ QJ (.str y) H := ⟨y, rfl, hg, k⟩
theorem y_jsN {acc : Str} (k : Q (.str acc) H) : tJs [] acc σ H fun out H1 => Q (.str out) H1 := k
def FmtK (Q : VK) (x : V) (H1 : Hp) : Prop := (∃ y : Str, x = .str y ∧ y.length ≤ sizeLine ∧ Q (.str y) H1) ∨ ∃ i : Int, x = .int i ∧ i.natAbs.log2 < 1920 ∧ Q (.str (toString i)) H1
theorem y_fmt (k : te σ H fun x H1 => FmtK Q x H1) : tFmt te σ H Q := k
theorem y_fmtI {i : Int} (hg : CStr i) (k : Q (.str (strI i)) H) : FmtK Q (.int i) H := .inr ⟨i, rfl, hg, k⟩
theorem y_fmtS {y : Str} (hg : y.length ≤ sizeLine) (k : Q (.str y) H) : FmtK Q (.str y) H := .inl ⟨y, rfl, hg, k⟩
end
end Z

/-! # a tuple of two lists of one's own -/
namespace Z
open PySem L2
section
variable {K : PySem.W.Frag} {H Ho H' Ho' : Hp} {α β γ : Type} [Py α] [Py β] {Φ : γ → Prop} {R g0 g1 g : Grp} {v w u v0 v1 : V} {Q : VK} {σ : L2.St} {xs : List α} {ys : List β} {x : List α × List β}
def TupAt (Ho : Hp) (v v0 v1 : V) : Prop := ∃ p, v = .ref p ∧ Ho p = some (.tup [v0, v1])
theorem TupAt.mo (h : TupAt Ho v v0 v1) (e : Same Ho Ho') : TupAt Ho' v v0 v1 := by
  obtain ⟨p, rfl, hp⟩ := h
  exact ⟨p, rfl, e _ _ hp⟩
def OP (K : PySem.W.Frag) (Ho : Hp) (v : V) (x : List α × List β) (g : Grp) : Prop := ∃ v0 v1 g0 g1, TupAt Ho v v0 v1 ∧ OL K Ho v0 x.1 g0 ∧ OL K Ho v1 x.2 g1 ∧ g = g0 ++ g1
theorem OP.mo (h : OP K Ho v x g) (e : Same Ho Ho') : OP K Ho' v x g := by
  obtain ⟨v0, v1, g0, g1, t, o0, o1, rfl⟩ := h
  exact ⟨v0, v1, g0, g1, t.mo e, o0.mo e, o1.mo e, rfl⟩
theorem p_open {P : Prop} (o : OP K Ho v x g) (z : Zs (g ++ R) H Ho) (k : ∀ v0 v1 g0 g1, TupAt Ho v v0 v1 → OL K Ho v0 x.1 g0 → OL K Ho v1 x.2 g1 → Zs (g0 ++ (g1 ++ R)) H Ho → P) : P := by
  obtain ⟨v0, v1, g0, g1, t, o0, o1, rfl⟩ := o
  rw [List.append_assoc] at z
  exact k v0 v1 g0 g1 t o0 o1 z
theorem p_close {P : Prop} (t : TupAt Ho v v0 v1) (o0 : OL K Ho v0 xs g0) (o1 : OL K Ho v1 ys g1) (z : Zs (g0 ++ (g1 ++ R)) H Ho) (k : ∀ g, OP K Ho v (xs, ys) g → Zs (g ++ R) H Ho → P) : P :=
  k (g0 ++ g1) ⟨v0, v1, g0, g1, t, o0, o1, rfl⟩ (by rw [List.append_assoc]; exact z)
theorem p_reopen {P : Prop} (t : TupAt Ho v v0 v1) (o : OP K Ho v x g) (z : Zs (g ++ R) H Ho) (k : ∀ g0 g1, OL K Ho v0 x.1 g0 → OL K Ho v1 x.2 g1 → Zs (g0 ++ (g1 ++ R)) H Ho → P) : P := by
  obtain ⟨w0, w1, g0, g1, t2, o0, o1, rfl⟩ := o
  rw [List.append_assoc] at z
  obtain ⟨p, rfl, hp⟩ := t
  obtain ⟨q, hq, hq2⟩ := t2
  cases hq
  rw [hp] at hq2
  cases hq2
  exact k g0 g1 o0 o1 z
theorem p_fr {P : Prop} (o : OP K Ho v x g) (z : Zs (g ++ R) H Ho) (k : ∀ Ho', Same Ho Ho' → Zs R H Ho' → Z.D K Ho' v x → P) : P := by
  obtain ⟨w0, w1, g0, g1, t, o0, o1, rfl⟩ := o
  rw [List.append_assoc] at z
  obtain ⟨Ho1, e1, z1, d0⟩ := OL.fr o0 z
  obtain ⟨Ho2, e2, z2, d1⟩ := OL.fr (o1.mo e1) z1
  refine k Ho2 (e1.trans e2) z2 ?_
  obtain ⟨p, rfl, hp⟩ := t
  exact .tup (e2 _ _ (e1 _ _ hp)) (.cons (D.mo d0 e2) (.cons d1 .nil))
theorem p_tupk (z : Zs R H Ho) (k : ∀ p H' Ho', Same Ho Ho' → Zs R H' Ho' → TupAt Ho' (.ref p) v0 v1 → Q (.ref p) H') : TupK Q [v0, v1] H :=
  ⟨by show 2 ≤ sizeLine; decide, fun p hp => k p _ _ (Same.new (z.free hp)) (z.alloc hp) ⟨p, rfl, upd_same⟩⟩
theorem TupAt.d (t : TupAt Ho v v0 v1) (d0 : Z.D K Ho v0 xs) (d1 : Z.D K Ho v1 ys) : Z.D K Ho v (xs, ys) := by
  obtain ⟨p, rfl, hp⟩ := t
  exact .tup hp (.cons d0 (.cons d1 .nil))
theorem TupAt.rd (t : TupAt Ho v v0 v1) (l0 : LV K R Ho v0 xs) (l1 : LV K R Ho v1 ys) (z : Zs R H Ho) : Z.D K H v (xs, ys) := by
  obtain ⟨p, rfl, hp⟩ := t
  exact .tup (z.le _ _ hp) (.cons (l0.dp z) (.cons (l1.dp z) .nil))
theorem p_ix0 (t : TupAt Ho v v0 v1) (z : Zs R H Ho) (k : Q v0 H) : rIxT K v (.int 0) H Q := by
  obtain ⟨p, rfl, hp⟩ := t
  exact ⟨p, [v0, v1], 0, v0, rfl, rfl, SqT.of (z.le _ _ hp), rfl, k⟩
theorem p_ix1 (t : TupAt Ho v v0 v1) (z : Zs R H Ho) (k : Q v1 H) : rIxT K v (.int 1) H Q := by
  obtain ⟨p, rfl, hp⟩ := t
  exact ⟨p, [v0, v1], 1, v1, rfl, rfl, SqT.of (z.le _ _ hp), rfl, k⟩
theorem p_len (t : TupAt Ho v v0 v1) (z : Zs R H Ho) (k : Q (.int 2) H) : rLenZ K [v] H Q := by
  obtain ⟨p, rfl, hp⟩ := t
  exact ⟨p, [v0, v1], rfl, .inr (SqT.of (z.le _ _ hp)), k⟩
theorem p_gt2 {i j : Nat} {QS : L2.St → Hp → Prop} (σ' : V → V → L2.St) (hσ : ∀ v u, (σ.set i (some v)).set j (some u) = σ' v u) (t : TupAt Ho v v0 v1) (z : Zs R H Ho) (k : QS (σ' v0 v1) H) : gTup K 2 (gCons (gName i) (gCons (gName j) gNil)) v σ H QS := by
  obtain ⟨p, rfl, hp⟩ := t
  exact ⟨_, _, rfl, SqT.of (z.le _ _ hp), rfl, _, _, rfl, _, _, rfl, rfl, by rw [hσ]; exact k⟩
theorem p_o {G : V → Prop} {e : List α × List β} {f : List α × List β → W γ} (hw : (W.bind (W.ret e) f).run Φ) (z : Zs (g ++ R) H Ho) (o : OP K Ho v e g) (k : ∀ x v g, Zs (g ++ R) H Ho → OP K Ho v x g → (f x).run Φ → G v) : LetV G v := k e v g z o hw
theorem g_rep {n : Int} (z : Zs (g ++ R) H Ho) (o : OL K Ho v xs g) (hg : repG xs n) (k : ∀ H' p ws, Zs ([(p, .lst ws)] ++ (g ++ R)) H' Ho → DL K Ho ws (repL xs n) → Q (.ref p) H') : rRep v (.int n) H Q := by
  obtain ⟨p, vs, rfl, d, rfl⟩ := o
  exact ⟨p, n, vs, rfl, rfl, z.head, hg.1, hg.2.1, by rw [DL.len d]; exact hg.2.2, fun q hq => k _ q _ (z.root hq) (rep_dl d _)⟩
theorem zpe_revL {X : Cx} {e : Expr} {te : TE} {k : Nat} {p1 p2 p3 pos : Pos} (hK : X.K = K) (he : PE X e te) : PE X (.Subscript e (.Slice none none (some (.UnaryOp .USub (.Constant (.int 1) k p1) p2)) p3) pos) (tRevL K te) := hK ▸ pe_revL he
def RevK (K : PySem.W.Frag) (Q : VK) (x : V) (H1 : Hp) : Prop := ∃ a xs, x = .ref a ∧ SqL K H1 a xs ∧ ∀ p, H1 p = none → Q (.ref p) (upd H1 p (.lst xs.reverse))
theorem y_revL {te : TE} (k : te σ H fun x H1 => RevK K Q x H1) : tRevL K te σ H Q := k
theorem y_rev1 (d : LV K R Ho v xs) (z : Zs R H Ho) (k : ∀ H' p ws, Zs ((p, .lst ws) :: R) H' Ho → DL K Ho ws xs.reverse → Q (.ref p) H') : RevK K Q v H := by
  obtain ⟨p, vs, rfl, d, s⟩ := d.rd z
  refine ⟨p, vs, rfl, s, fun q hq => k _ q _ (z.root hq) ?_⟩
  show DqAll _ _ _ (xs.reverse.map Py.toPy)
  rw [List.map_reverse]
  exact dpAll_rev d
end
/-! dicts whose keys are four ints -/
instance : DKey (P4 Int Int Int Int) where
  kt := List L2.Key
  dec := inferInstance
  key p := [.inl p.a, .inl p.b, .inl p.c, .inl p.d]
  inj h := by
    rename_i x y
    obtain ⟨a1, a2, a3, a4⟩ := x
    obtain ⟨b1, b2, b3, b4⟩ := y
    simp only [List.cons.injEq, Sum.inl.injEq, and_true] at h
    rw [h.1, h.2.1, h.2.2.1, h.2.2.2]
  ho := .dT
  get e s d := by
    cases d with
    | tup hs ha =>
      cases ha with
      | cons h1 ha => cases ha with
        | cons h2 ha => cases ha with
          | cons h3 ha => cases ha with
            | cons h4 ha =>
              cases ha
              rw [d_int h1, d_int h2, d_int h3, d_int h4] at hs
              exact DGet.t e (s _ _ hs)
  put e s d h := by
    cases d with
    | tup hs ha =>
      cases ha with
      | cons h1 ha => cases ha with
        | cons h2 ha => cases ha with
          | cons h3 ha => cases ha with
            | cons h4 ha =>
              cases ha
              rw [d_int h1, d_int h2, d_int h3, d_int h4] at hs
              exact DPut.t e (s _ _ hs) h
  isd e := .inr ⟨_, .inl e⟩
section
variable {K : PySem.W.Frag} {H Ho : Hp} {α : Type} [Py α] {R : Grp} {Q : VK} {σ : L2.St}
theorem g_dnewT4 (z : Zs R H Ho) (k : ∀ H' v g, Zs (g ++ R) H' Ho → OD K Ho v ([] : Dc (P4 Int Int Int Int) α) g → Q v H') : tDNewT σ H Q := fun p hp => k _ _ _ (z.root hp) ⟨p, [], rfl, ⟨rfl, .nil⟩, rfl⟩
end
end Z

/-! # texts, sign by sign; split, int -/
namespace Z
open PySem PySem.Spec PyProof.Rows L2
section
variable {K : PySem.W.Frag} {H Ho : Hp} {R : Grp} {v w : V} {Q : VK} {σ : L2.St} {te to : TE} {X : Cx} {γ : Type} {Φ : γ → Prop}
def chS (z : Str) : List Str := z.cps.toList.map fun c => (⟨#[c]⟩ : Str)
theorem trn_str {z : Str} : Trn K [] (Its z) (chS z) Ho := by
  intro i rs' H' Ho' e zz sub
  refine ⟨fun x hx => ?_, fun hl => ?_⟩
  · unfold chS at hx
    rw [List.getElem?_map, Option.map_eq_some_iff] at hx
    obtain ⟨c, hc, rfl⟩ := hx
    have hi : i < z.cps.size := by
      have := (List.getElem?_eq_some_iff.mp hc).1
      rwa [Array.length_toList] at this
    refine ⟨hi, fun y H'' yy => ?_⟩
    obtain ⟨rfl, d, hd, rfl⟩ := yy
    have : d = c := by
      rw [Array.getElem?_toList] at hc
      exact Option.some.inj (hd.symm.trans hc)
    subst this
    exact ⟨Ho', Same.refl _, fun _ z => z, .str _⟩
  · unfold chS at hl
    rw [List.length_map, Array.length_toList] at hl
    exact hl
def SrcS (R : It → Hp → Prop) (x : V) (H : Hp) : Prop := ∃ z, x = .str z ∧ R (Its z) H
theorem k_iStr {R : It → Hp → Prop} (k : te σ H fun x H1 => SrcS R x H1) : iStr te σ H R := k
theorem k_srcS {R : It → Hp → Prop} {z : Str} (k : ∀ J, Trn K [] J (chS z) Ho → R J H) : SrcS R (.str z) H := ⟨z, rfl, k _ trn_str⟩
def hasS (j i : Str) : Bool := !(Builtin.Str.occurrences j i 0 j.length 1).isEmpty
def rInStr : R2 := fun x y H Q => ∃ i j, x = .str i ∧ y = .str j ∧ Q (.bl (!(Builtin.Str.occurrences j i 0 j.length 1).isEmpty)) H
def rNotinStr : R2 := fun x y H Q => ∃ i j, x = .str i ∧ y = .str j ∧ Q (.bl (!(!(Builtin.Str.occurrences j i 0 j.length 1).isEmpty))) H
theorem zop_inStr : OpR X (compareOp .In) rInStr := op_in_str
theorem zop_notinStr : OpR X (compareOp .NotIn) rNotinStr := op_notin_str
theorem y_inStr {i j : Str} (k : Q (.bl (hasS j i)) H) : rInStr (.str i) (.str j) H Q := ⟨i, j, rfl, rfl, k⟩
theorem y_notinStr {i j : Str} (k : Q (.bl (!hasS j i)) H) : rNotinStr (.str i) (.str j) H Q := ⟨i, j, rfl, rfl, k⟩
/-- the sign at a place -/
def chr (z : Str) (i : Int) : W Str := W.guard (z.length ≤ sizeLine) (W.bind (W.opt (atI z.cps.toList i)) fun c => W.ret (⟨#[c]⟩ : Str))
theorem y_ixStr {z : Str} {i : Int} {f : Str → W γ} (hw : (W.bind (chr z i) f).run Φ) (k : ∀ t, (f t).run Φ → Q (.str t) H) : rIxS (.str z) (.int i) H Q := by
  obtain ⟨hl, c, hc, hw⟩ := hw
  exact ⟨z, i, c, rfl, rfl, hl, hc, k _ hw⟩
def rLenS : List V → Hp → VK → Prop := fun xs H Q => ∃ y : Str, xs = [.str y] ∧ y.length ≤ sizeLine ∧ Q (.int (y.length : Nat)) H
theorem zlenS : CallR X (.builtin "len") rLenS := by
  intro pins s σ H xs us Q I r h
  obtain ⟨y, e, hl, q⟩ := h
  exact call_len pins s σ H xs us Q I r ⟨.str y, y.length, e, ⟨hl, rfl⟩, q⟩
theorem y_lenStr {y : Str} (hg : y.length ≤ sizeLine) (k : Q (.int (y.length : Int)) H) : rLenS [.str y] H Q := ⟨y, rfl, hg, k⟩
def rSplit : V → List V → Hp → VK → Prop := fun x xs H Q => ∃ a b, x = .str a ∧ xs = [.str b] ∧ (b.length == 0) = false ∧ a.length + 2 ≤ sizeLine ∧ rNewStrs (Txt.split a b) H Q
theorem zmt_split : MtR X "str.split" rSplit := mt_split
def SplG (a b : Str) : Prop := (b.length == 0) = false ∧ a.length + 2 ≤ sizeLine
theorem strs_dl : ∀ {xs : List Str}, DL K H (xs.map V.str) xs
  | [] => .nil
  | x :: xs => .cons (.str x) strs_dl
theorem y_split {a b : Str} (z : Zs R H Ho) (hg : SplG a b) (k : ∀ H' p ws, Zs ((p, .lst ws) :: R) H' Ho → DL K Ho ws (Txt.split a b) → Q (.ref p) H') : rSplit (.str a) [.str b] H Q :=
  ⟨a, b, rfl, rfl, hg.1, hg.2, fun p hp => k _ p _ (z.root hp) strs_dl⟩
def rIntS : List V → Hp → VK → Prop := fun xs H Q => ∃ a n, xs = [.str a] ∧ PySem.intText? a = some n ∧ a.length ≤ 640 ∧ Q (.int n) H
theorem zintS : CallR X (.type "int") rIntS := call_int_str
/-- int(text) -/
def intS (a : Str) : W Int := W.guard (a.length ≤ 640) (W.opt (PySem.intText? a))
theorem y_intS {a : Str} {f : Int → W γ} (hw : (W.bind (intS a) f).run Φ) (k : ∀ t, (f t).run Φ → Q (.int t) H) : rIntS [.str a] H Q := by
  obtain ⟨hl, n, hn, hw⟩ := hw
  exact ⟨a, n, rfl, hn, hl, k _ hw⟩
end
end Z

/-! # a list of two is taken apart -/
namespace Z
open PySem PySem.Spec PyProof.Rows L2
section
variable {α γ : Type} [Py α] {K : PySem.W.Frag} {rs : List (Addr × HO)} {H Ho : Hp} {σ : L2.St} {Φ : γ → Prop}
def two {α : Type} : List α → Option (α × α)
  | [a, b] => some (a, b)
  | _ => none
theorem two_some {xs : List α} {p : α × α} (h : two xs = some p) : xs = [p.1, p.2] := by
  match xs, h with
  | [a, b], h => cases h; rfl
theorem zpg_unl {X : Cx} {es : List Expr} {k : Nat} {t : TGs} {n : Nat} {pos : Pos} (hK : X.K = K) (hc : X.calm = true) (h : PGs X es t)
    (hn : (assignEach es X.env).length = n := by rfl) (hst : (assignEach es X.env).findIdx? (·.1) = none := by rfl) : PG X (.Tuple es k pos) (gUnl K n t) := hK ▸ pg_unl hc h hn hst
theorem c_unl2 {i j : Nat} {x : V} {QS : L2.St → Hp → Prop} {xs : List α} {f : α × α → W γ} (hw : (W.bind (W.opt (two xs)) f).run Φ) (σ' : V → V → L2.St) (hσ : ∀ v u, (σ.set i (some v)).set j (some u) = σ' v u) (d : LV K rs Ho x xs) (z : Zs rs H Ho)
    (k : ∀ a b v u, D K Ho v a → D K Ho u b → (f (a, b)).run Φ → QS (σ' v u) H) : gUnl K 2 (gCons (gName i) (gCons (gName j) gNil)) x σ H QS := by
  obtain ⟨p, e, hf⟩ := hw
  have ex := two_some e
  subst ex
  obtain ⟨q, vs, rfl, d, s⟩ := LV.rd d z
  cases d with
  | cons h1 h2 =>
    cases h2 with
    | cons h2 h3 =>
      cases h3
      exact ⟨_, _, rfl, s, rfl, _, _, rfl, _, _, rfl, rfl, by rw [hσ]; exact k _ _ _ _ h1 h2 hf⟩
end
end Z

/-! # data of any kind: items, lengths, kinds -/
namespace Z
open PySem PySem.Spec PyProof.Rows L2
theorem IxR.or {X : Cx} {r r' : R2} (h : IxR X r) (h' : IxR X r') : IxR X (fun x y H Q => r x y H Q ∨ r' x y H Q) := by
  intro value slice pins s σ H x y v u Q I rx ry q hs
  rcases q with q | q
  · exact h _ _ _ _ _ _ _ _ _ _ _ I rx ry q hs
  · exact h' _ _ _ _ _ _ _ _ _ _ _ I rx ry q hs
section
variable {α β γ : Type} [Py α] {K : PySem.W.Frag} {rs : List (Addr × HO)} {H Ho : Hp} {σ : L2.St} {Φ : γ → Prop} {Q : VK} {v : V}
def rIxA (K : PySem.W.Frag) : R2 := fun x y H Q => rIxL K x y H Q ∨ rIxT K x y H Q
theorem zix_any {X : Cx} (hK : X.K = K) : IxR X (rIxA K) := (zix_list hK).or (zix_tup hK)
/-- the item of a list or a tuple -/
def pyIx : PyData → Int → Option PyData
  | .list xs, i => atI xs i
  | .tuple xs, i => atI xs i
  | _, _ => none
def pyLen : PyData → Option Int
  | .list xs => some (xs.length : Int)
  | .tuple xs => some (xs.length : Int)
  | _ => none
theorem atI_dqG {H : Hp} {vs : List V} {ds : List PyData} {i : Int} {d : PyData} (h : DqAll K H vs ds) (e : atI ds i = some d) : ∃ v, atI vs i = some v ∧ Dq K H v d := by
  unfold atI at e ⊢
  have hl := dpAll_len h
  rw [hl]
  cases q : ixN ds.length i with
  | none => rw [q] at e; cases e
  | some j =>
    rw [q] at e
    exact dpAll_get h e
theorem y_ixP {x : PyData} {i : Int} {f : PyData → W γ} (d : D K Ho v x) (z : Zs rs H Ho) (hw : (W.bind (W.opt (pyIx x i)) f).run Φ) (k : ∀ t w, D K Ho w t → (f t).run Φ → Q w H) : rIxA K v (.int i) H Q := by
  obtain ⟨a, ea, hw⟩ := hw
  have d : Dq K Ho v x := d
  cases d with
  | lst hs ha =>
    obtain ⟨w, ew, dw⟩ := atI_dqG ha ea
    exact .inl ⟨_, _, i, w, rfl, rfl, z.le.seq hs, ew, k a w dw hw⟩
  | tup hs ha =>
    obtain ⟨w, ew, dw⟩ := atI_dqG ha ea
    exact .inr ⟨_, _, i, w, rfl, rfl, SqT.of (z.le _ _ hs), ew, k a w dw hw⟩
  | non => cases ea
  | bl _ => cases ea
  | int _ => cases ea
  | str _ => cases ea
  | ins _ _ _ => cases ea
theorem y_lenP {x : PyData} {f : Int → W γ} (d : D K Ho v x) (z : Zs rs H Ho) (hw : (W.bind (W.opt (pyLen x)) f).run Φ) (k : ∀ t, (f t).run Φ → Q (.int t) H) : rLenZ K [v] H Q := by
  obtain ⟨a, ea, hw⟩ := hw
  have d : Dq K Ho v x := d
  cases d with
  | lst hs ha =>
    cases ea
    refine ⟨_, _, rfl, .inl (z.le.seq hs), ?_⟩
    rw [dpAll_len ha]
    exact k _ hw
  | tup hs ha =>
    cases ea
    refine ⟨_, _, rfl, .inr (SqT.of (z.le _ _ hs)), ?_⟩
    rw [dpAll_len ha]
    exact k _ hw
  | non => cases ea
  | bl _ => cases ea
  | int _ => cases ea
  | str _ => cases ea
  | ins _ _ _ => cases ea
/-! isinstance(x, (T1, T2)) -/
theorem zisiT {X : Cx} (hK : X.K = K) : CallR X (.builtin "isinstance") (rIsiT K) := hK ▸ call_isiT
def allK : List String := ["NoneType", "bool", "int", "str", "list", "tuple", "dict"]
def IsiK (T : String) : Prop := (allK.all fun k => (kitB k T).isSome) = true
theorem tyx_py {x : PyData} (d : Dq K H v x) (hg : okP x) : TyX K H v (.type (pyK x)) := by
  cases d with
  | ins _ _ _ => exact absurd rfl (hg _)
  | non => exact .base .non
  | bl b => exact .base (.bl _)
  | int i => exact .base (.int _)
  | str s => exact .base (.str _)
  | lst hs _ => exact tyx_list hs
  | tup hs _ => exact tyx_tup (SqT.of hs)
theorem isP_kit {x : PyData} {T : String} (h : IsiK T) : PySem.W.kitOne K (.type (pyK x)) (.type T) = some (isP x T) := by
  have hs : (kitB (pyK x) T).isSome = true := by
    refine (List.all_eq_true.mp h) _ ?_
    cases x <;> simp [pyK, allK]
  obtain ⟨b, hb⟩ := Option.isSome_iff_exists.mp hs
  have e : isP x T = b := by unfold isP; rw [hb]; rfl
  rw [e]
  exact kit_ty hb
theorem y_isPT2 {x : α} {p : Addr} {S T : String} (d : D K H v x) (hg : okP (toPy x)) (hp : H p = some (.tup [.ty S, .ty T])) (h1 : IsiK S) (h2 : IsiK T) (k : Q (.bl (isP (toPy x) S || (isP (toPy x) T || false))) H) : rIsiT K [v, .ref p] H Q :=
  ⟨v, p, _, .type (pyK (toPy x)), [.type S, .type T], _, rfl, hp, .cons (.ty S) (.cons (.ty T) .nil), tyx_py d hg, kitAny_or (isP_kit h1) (kitAny_or (isP_kit h2) kitAny_nil), k⟩
/-! data of a kind that is wanted -/
class Fr (α : Type) [Py α] where
  fr : PyData → Option α
  ok : ∀ d a, fr d = some a → d = toPy a
instance : Fr Int := ⟨fun d => match d with | .int i => some i | _ => none, fun d a h => by cases d <;> first | (cases h; rfl) | (cases h)⟩
instance : Fr Str := ⟨fun d => match d with | .str i => some i | _ => none, fun d a h => by cases d <;> first | (cases h; rfl) | (cases h)⟩
instance : Fr Bool := ⟨fun d => match d with | .bool i => some i | _ => none, fun d a h => by cases d <;> first | (cases h; rfl) | (cases h)⟩
def frAll (β : Type) [Py β] [Fr β] : List PyData → Option (List β)
  | [] => some []
  | d :: ds => match (Fr.fr d : Option β), frAll β ds with
    | some a, some as => some (a :: as)
    | _, _ => none
theorem frAll_ok {β : Type} [Py β] [Fr β] : ∀ {ds : List PyData} {as : List β}, frAll β ds = some as → ds = as.map Py.toPy
  | [], as, h => by cases h; rfl
  | d :: ds, as, h => by
    unfold frAll at h
    split at h
    · rename_i a as' e1 e2
      cases h
      rw [List.map_cons, ← frAll_ok e2, Fr.ok d a e1]
    · cases h
instance {β : Type} [Py β] [Fr β] : Fr (List β) := ⟨fun d => match d with | .list xs => frAll β xs | _ => none, fun d a h => by
  cases d <;> first | (cases h; done) | skip
  rename_i xs
  show PyData.list xs = .list (a.map Py.toPy)
  rw [frAll_ok (show frAll β xs = some a from h)]⟩
instance {β β' : Type} [Py β] [Fr β] [Py β'] [Fr β'] : Fr (β × β') := ⟨fun d => match d with
  | .tuple [x, y] => match (Fr.fr x : Option β), (Fr.fr y : Option β') with
    | some a, some b => some (a, b)
    | _, _ => none
  | _ => none, fun d p h => by
  split at h
  · rename_i x y
    split at h
    · rename_i a b e1 e2
      cases h
      rw [Fr.ok _ _ e1, Fr.ok _ _ e2]; rfl
    · cases h
  · cases h⟩
instance {β β' β'' : Type} [Py β] [Fr β] [Py β'] [Fr β'] [Py β''] [Fr β''] : Fr (P3 β β' β'') := ⟨fun d => match d with
  | .tuple [x, y, z] => match (Fr.fr x : Option β), (Fr.fr y : Option β'), (Fr.fr z : Option β'') with
    | some a, some b, some c => some ⟨a, b, c⟩
    | _, _, _ => none
  | _ => none, fun d p h => by
  split at h
  · rename_i x y z
    split at h
    · rename_i a b c e1 e2 e3
      cases h
      rw [Fr.ok _ _ e1, Fr.ok _ _ e2, Fr.ok _ _ e3]; rfl
    · cases h
  · cases h⟩
instance {β β' β'' γ' : Type} [Py β] [Fr β] [Py β'] [Fr β'] [Py β''] [Fr β''] [Py γ'] [Fr γ'] : Fr (P4 β β' β'' γ') := ⟨fun d => match d with
  | .tuple [x, y, z, u] => match (Fr.fr x : Option β), (Fr.fr y : Option β'), (Fr.fr z : Option β''), (Fr.fr u : Option γ') with
    | some a, some b, some c, some e => some ⟨a, b, c, e⟩
    | _, _, _, _ => none
  | _ => none, fun d p h => by
  split at h
  · rename_i x y z u
    split at h
    · rename_i a b c e e1 e2 e3 e4
      cases h
      rw [Fr.ok _ _ e1, Fr.ok _ _ e2, Fr.ok _ _ e3, Fr.ok _ _ e4]; rfl
    · cases h
  · cases h⟩
theorem y_fr {β : Type} [Py β] [Fr β] {x : PyData} {P : Prop} {f : β → W γ} (d : D K Ho v x) (hw : (W.bind (W.opt (Fr.fr x : Option β)) f).run Φ) (k : ∀ t, D K Ho v t → (f t).run Φ → P) : P := by
  obtain ⟨a, ea, hw⟩ := hw
  refine k a ?_ hw
  have e := Fr.ok x a ea
  show Dq K Ho v (toPy a)
  rw [← e]
  exact d
end
/-! xs.extend(ys), ys as it stands -/
theorem list_extendW (l : Addr) (items : Array Value) (n : Nat) (b : Addr) (items2 : Array Value) (n2 : Nat) (dd2 : Option Addr) (sl2 : Array (Option Value)) (hc0 : ¬(!items.isEmpty && Builtin.List.listTooLong (items.size + items2.size)) = true) (hc1 : items.size ≤ sizeLine) (hs2 : items.size + items2.size ≤ sizeLine + 1 := by seq_fits) :
    Meets (Builtin.«list.extend» ⟨[.ref l, .ref b], []⟩) (fun _ R s => s.heap.get? l = some { cls := .type "list", dict := none, data := .seq items n, slots := #[] } ∧ s.heap.get? b = some { cls := .type "list", dict := dd2, data := .seq items2 n2, slots := sl2 } ∧ R (.ok (.ret Value.none)) { s with heap := s.heap.update l (Obj.mapSeq fun x => x ++ items2), toks := s.toks }) :=
  .of_wp fun prog w A R s h => by
    obtain ⟨hp, g, d, tk, os⟩ := s; obtain ⟨hl, hb, h⟩ := h; have f1 := AutoSeq1.idx_int; have f2 := AutoSeq1.sub_tuple_tuple; have f3 := AutoSeq1.sub_list_list; have f4 := AutoSeq1.sub_tuple_list; have f5 := AutoSeq1.sub_list_tuple;
    have hz' : (items ++ items2).size ≤ sizeLine + 1 := by rw [Array.size_append]; exact hs2
    wp_walk using (wpAny_updateSeq hl rfl (hz := hc1) (_hz' := hz')), AutoSeq1.wpAny_loadPart' hl, AutoSeq1.wpAny_loadPart' hb; exact ⟨_, rfl, h⟩
def rExtendS (K : PySem.W.Frag) : V → List V → Hp → VK → Prop := fun x vs H Q => ∃ l b xs zs, x = .ref l ∧ vs = [.ref b] ∧ H l = some (.lst xs) ∧ SqL K H b zs ∧ xs.length + zs.length ≤ sizeLine ∧ Q .non (upd H l (.lst (xs ++ zs)))
theorem mt_extendS {X : Cx} : MtM X "list.extend" (rExtendS X.K) := by
  intro pins s σ H x vs v us Q I rx rv h
  obtain ⟨l, b, xs, zs, rfl, rfl, hH, hB, hz, q⟩ := h
  cases rx
  obtain ⟨u, rfl, ru⟩ := rv.one
  cases ru
  obtain ⟨z, its, n, r, hl, e⟩ := I.lstM hH
  obtain ⟨its2, r2, pl2, _⟩ := I.list hB
  have hl2 := r2.length
  obtain ⟨⟨cls2, dd2, data2, sl2⟩, ho2, hc2, n2, hd2⟩ := pl2.isList
  simp only at hc2 hd2
  subst hc2 hd2
  have hsz : its.toArray.size + its2.toArray.size ≤ sizeLine := by rw [List.size_toArray, List.size_toArray]; omega
  have hlong : ¬ (!its.toArray.isEmpty && Builtin.List.listTooLong (its.toArray.size + its2.toArray.size)) = true := by
    rw [notLongL hsz, Bool.and_false]
    exact Bool.false_ne_true
  refine call_meets F.slot_list_extend ⟨_, e, rfl⟩ F.entry_list_extend (F.args_list_extend_2 _ _)
    (list_extendW l its.toArray n b its2.toArray n2 dd2 sl2 hlong (by rw [List.size_toArray]; omega) (by omega)) ⟨e, ho2, ?_⟩
  refine ⟨.non, _, I.lset (its' := its ++ its2) hH e (by simp) (r.append r2) ?_, rfl, q⟩
  rw [List.length_append]
  omega
theorem zmt_extendS {X : Cx} {K : PySem.W.Frag} (hK : X.K = K) : MtM X "list.extend" (rExtendS K) := hK ▸ mt_extendS
section
variable {α γ : Type} [Py α] {K : PySem.W.Frag} {R : Grp} {H Ho : Hp} {Φ : γ → Prop} {Q : VK} {v w : V}
theorem g_extD {xs ys : List α} {g : Grp} {f : List α → W γ} (z : Zs (g ++ R) H Ho) (o : OL K Ho v xs g) (o2 : LV K (g ++ R) Ho w ys) (hw : (W.bind (exd xs ys) f).run Φ) (k : ∀ xs' g' H', Zs (g' ++ R) H' Ho → OL K Ho v xs' g' → (f xs').run Φ → Q .non H') : rExtendS K v [w] H Q := by
  obtain ⟨p, vs, rfl, d, rfl⟩ := o
  obtain ⟨q, us, rfl, d2, s2⟩ := LV.rd o2 z
  exact ⟨p, q, vs, us, rfl, rfl, z.head, s2, by rw [DL.len d, DL.len d2]; exact hw.1, k _ _ _ z.put ⟨p, _, rfl, d.append d2, rfl⟩ hw.2⟩
end
end Z

/-! # objects: their fields, their methods, how they are made -/
namespace Z
open PySem PySem.Spec PyProof.Rows L2
/-! fields by their places -/
theorem lk_zip : ∀ {ns : List Str} {vs : List V} {i : Nat} {f : Str} {v : V}, ns.Nodup → ns[i]? = some f → vs[i]? = some v → (ns.zip vs).lookup f = some v
  | [], _, _, _, _, _, h, _ => by cases h
  | _ :: _, [], _, _, _, _, _, h => by cases h
  | n :: ns, w :: vs, 0, f, v, _, h1, h2 => by
    cases h1
    cases h2
    rw [List.zip_cons_cons, List.lookup_cons, beq_self_eq_true]
  | n :: ns, w :: vs, i + 1, f, v, hn, h1, h2 => by
    have hm : f ∈ ns := List.mem_of_getElem? (show ns[i]? = some f from h1)
    have ne : f ≠ n := fun e => (List.nodup_cons.mp hn).1 (e ▸ hm)
    rw [List.zip_cons_cons, List.lookup_cons, beq_eq_false_iff_ne.mpr ne]
    exact lk_zip (List.nodup_cons.mp hn).2 h1 h2
theorem lk_none : ∀ {ns : List Str} {vs : List V} {f : Str}, f ∉ ns → (ns.zip vs).lookup f = none
  | [], _, _, _ => rfl
  | _ :: _, [], _, _ => rfl
  | n :: ns, w :: vs, f, h => by
    have ne : f ≠ n := fun e => h (by rw [e]; exact List.mem_cons_self)
    rw [List.zip_cons_cons, List.lookup_cons, beq_eq_false_iff_ne.mpr ne]
    exact lk_none fun m => h (List.mem_cons_of_mem _ m)
theorem put_zip : ∀ {ns : List Str} {vs : List V} {i : Nat} {f : Str} {v : V}, ns.Nodup → ns[i]? = some f → i < vs.length → putF f v (ns.zip vs) = ns.zip (vs.set i v)
  | [], _, _, _, _, _, h, _ => by cases h
  | _ :: _, [], _, _, _, _, _, h => by simp at h
  | n :: ns, w :: vs, 0, f, v, _, h1, _ => by
    cases h1
    show (if n = n then _ else _) = _
    rw [if_pos rfl]; rfl
  | n :: ns, w :: vs, i + 1, f, v, hn, h1, h2 => by
    have hm : f ∈ ns := List.mem_of_getElem? (show ns[i]? = some f from h1)
    have ne : ¬ n = f := fun e => (List.nodup_cons.mp hn).1 (e ▸ hm)
    show (if n = f then _ else (n, w) :: putF f v (ns.zip vs)) = (n, w) :: ns.zip (vs.set i v)
    rw [if_neg ne, put_zip (List.nodup_cons.mp hn).2 h1 (by simpa using h2)]
theorem put_new : ∀ {ns : List Str} {vs : List V} {f : Str} {v : V}, ns.Nodup → ns[vs.length]? = some f → putF f v (ns.zip vs) = ns.zip (vs ++ [v])
  | [], _, _, _, _, h => by simp at h
  | n :: ns, [], f, v, _, h => by
    cases h
    show [(n, v)] = _
    simp
  | n :: ns, w :: vs, f, v, hn, h => by
    have h : ns[vs.length]? = some f := h
    have hm : f ∈ ns := List.mem_of_getElem? h
    have ne : ¬ n = f := fun e => (List.nodup_cons.mp hn).1 (e ▸ hm)
    show (if n = f then _ else (n, w) :: putF f v (ns.zip vs)) = (n, w) :: ns.zip (vs ++ [v])
    rw [if_neg ne, put_new (List.nodup_cons.mp hn).2 h]
/-- a class of the text -/
structure CF (K : PySem.W.Frag) (q : Addr) (cn : Str) (ns : List Str) : Prop where
  at_ : PySem.W.nsIn K mainGlobals cn = some (some (.ref q))
  cl : Cls K q
  na : ∀ f ∈ ns, NoAttr K q f
  nd : ns.Nodup
  few : ns.length < 1000
theorem CF.eq {K : PySem.W.Frag} {q C : Addr} {cn : Str} {ns : List Str} (c : CF K q cn ns) (h : PySem.W.nsIn K mainGlobals cn = some (some (.ref C))) : q = C := by
  have e := c.at_.symm.trans h
  cases e
  rfl
theorem rowG_app {gs : List Grp} {R : Grp} : rowG gs [] ++ R = rowG gs R := by rw [rowG_eq, rowG_eq, List.append_nil]
def FldK (K : PySem.W.Frag) (Q : VK) (f : Str) (x : V) (H : Hp) : Prop := ∃ a C dx fs v, x = .ref a ∧ H a = some (.ins C dx fs) ∧ Cls K C ∧ NoAttr K C f ∧ fs.lookup f = some v ∧ Q v H
def SFldK (K : PySem.W.Frag) (N : Hp → Prop) (f : Str) (y x : V) (H : Hp) : Prop := ∃ a C dx fs, x = .ref a ∧ H a = some (.ins C dx fs) ∧ Cls K C ∧ NoAttr K C f ∧ fs.length < 1000 ∧ N (upd H a (.ins C dx (putF f y fs)))
def MetK (C : Addr) (m : Str) (G : V → Hp → Prop) (x : V) (H : Hp) : Prop := ∃ a dx fs, x = .ref a ∧ H a = some (.ins C dx fs) ∧ fs.lookup m = none ∧ G x H
def MkK (C : Addr) (G : V → Hp → Prop) (H : Hp) : Prop := ∀ x dx, H x = none → H dx = none → dx ≠ x → G (.ref x) (upd (upd H dx (.own x)) x (.ins C dx []))
def tMethS (C : Addr) (m : Str) (sp : Sp) (E : L2.St → XK) (ta : TE) (t : TA) : TE := fun σ H Q => ta σ H fun x H1 => MetK C m (fun x H1 => t σ H1 fun vs H2 => sp (x :: vs) H2 Q (E σ)) x H1
def tMakeS (C : Addr) (sp : Sp) (E : L2.St → XK) (t : TA) : TE := fun σ H Q => t σ H fun vs H1 => MkK C (fun x H2 => sp (x :: vs) H2 (fun v H3 => v = .non ∧ Q x H3) (E σ)) H1
section
variable {X : Cx} {CX : CXT} {k : Nat} {f C : Addr} {fd : FuncData} {ps : List Str} {sp : Sp} {E : L2.St → XK} {x m : Str} {p pos apos : Pos} {e o : Expr} {es : List Expr} {ta : TE} {t : TA}
theorem passAt0 {σ : L2.St} : PassesAt CX0 X σ (E σ) := fun pins H s e s' I c => pass0 pins σ H s e s' I c
theorem pe_methS' {pl : Sem Bool} (he : PE X o ta) (c : Cls X.K C) (hm : Meth X.K C m f) (F : FnOk X.prog X.w X.K X.mg X.base CX k f fd ps sp) (hr : Room k X.A) (hb : Binds X.K fd ps []) (hx : ∀ σ, PassesAt CX X σ (E σ)) (ha : PA X (e :: es) t)
    (hst : starEach (e :: es) X.env = (false, eval e X.env) :: starEach es X.env := by rfl) (hpl : (backTo pos (starEach es X.env)).any (·.1) = false := by rfl)
    (ht : eval (.Call (.Attribute o m apos) (e :: es) [] pos) X.env = (do
      let ov ← eval o X.env
      standAt apos.atName
      let (f, first) ← holding [ov] (getMethod ov m pl)
      callWith pos f first (backTo pos (starEach (e :: es) X.env)) (backToKw pos (keywordEach [] X.env))) := by rfl) :
    PE X (.Call (.Attribute o m apos) (e :: es) [] pos) (tMethS C m sp E ta t) := by
  refine ⟨fun pins s σ H Q I h => ?_⟩
  refine PySem.W.methodCall_KW (pl := pl) (thn (he.run pins s σ H _ I h) fun u s1 ⟨x, H1, I1, rx, a, dx, fs, ex, ea, l, q⟩ => ?_) ht
  subst ex
  obtain rfl : u = Value.ref a := rx
  refine getmeth_ok I1 ea c hm l ?_
  refine PySem.W.callWith_K (first := [.ref a]) (h₀ := X.base) I.ok.mod.kin hm.kp (thn (ha.run pos pins s1 σ H1 _ I1 q) fun us s2 ⟨vs, H2, I2, r, q2⟩ => ⟨I2.kIn, ?_⟩) hst hpl
  exact run_fnS (us := .ref a :: us) (vs := .ref a :: vs) F hr hb (hx σ) I2 (.cons rfl r) q2
theorem pe_methS0' {pl : Sem Bool} (he : PE X o ta) (c : Cls X.K C) (hm : Meth X.K C m f) (F : FnOk X.prog X.w X.K X.mg X.base CX k f fd ps sp) (hr : Room k X.A) (hb : Binds X.K fd ps []) (hx : ∀ σ, PassesAt CX X σ (E σ))
    (ht : eval (.Call (.Attribute o m apos) [] [] pos) X.env = (do
      let ov ← eval o X.env
      standAt apos.atName
      let (f, first) ← holding [ov] (getMethod ov m pl)
      callWith pos f first (backTo pos (starEach [] X.env)) (backToKw pos (keywordEach [] X.env))) := by rfl) :
    PE X (.Call (.Attribute o m apos) [] [] pos) (tMethS C m sp E ta tNil) := by
  refine ⟨fun pins s σ H Q I h => ?_⟩
  refine PySem.W.methodCall_KW (pl := pl) (thn (he.run pins s σ H _ I h) fun u s1 ⟨x, H1, I1, rx, a, dx, fs, ex, ea, l, q⟩ => ?_) ht
  subst ex
  obtain rfl : u = Value.ref a := rx
  refine getmeth_ok I1 ea c hm l ?_
  exact PySem.W.callWith_K0 (first := [.ref a]) I1.kIn hm.kp (run_fnS (us := [.ref a]) (vs := [.ref a]) F hr hb (hx σ) I1 (.cons rfl .nil) q)
theorem run_makeS {pins : List (Addr × Obj)} {σ : L2.St} {H : Hp} {s : Shared} {Q : VK} {us : List Value} {vs : List V} (M : Mk X.K C f) (F : FnOk X.prog X.w X.K X.mg X.base CX k f fd ps sp) (hr : Room (k + 1) X.A) (hb : Binds X.K fd ps [])
    (hx : PassesAt CX X σ (E σ)) (I : Inv X pins σ H s) (r : Vals vs us) (h : MkK C (fun x H2 => sp (x :: vs) H2 (fun v H3 => v = .non ∧ Q x H3) (E σ)) H) :
    wpAny (model X.prog X.w) X.A (call (.ref C) us) (EP X pins σ Q) X.xe s := by
  have hq := h (s.heap.objs.size + 1) s.heap.objs.size (I.hok.fresh (Nat.le_succ _)) (I.hok.fresh (Nat.le_refl _)) (Nat.ne_of_lt (Nat.lt_succ_self _))
  have I2 := Inv.made (C := C) I
  have r2 : Vals (V.ref (s.heap.objs.size + 1) :: vs) (Value.ref (s.heap.objs.size + 1) :: us) := .cons rfl r
  have hl : (Value.ref (s.heap.objs.size + 1) :: us ++ []).length = ps.length := by
    rw [List.append_nil]
    have e := r2.length
    rw [F.len _ _ _ _ hq] at e
    exact e.symm
  have hb' := hb _ (Value.ref (s.heap.objs.size + 1) :: us) I2.kIn hl
  rw [List.append_nil] at hb'
  refine wpAny_call (make_map (f := f) I.kIn M.makes M.init (beq_iff_eq.mp M.fn) (codeAny_mono (F.run _ X.stack _ _ ⟨Value.ref (s.heap.objs.size + 1) :: us, []⟩ (Value.ref (s.heap.objs.size + 1) :: us) _ _ (E σ) (hr.make C us [])
    (I2.env0.make C us []) hb' r2 hq) fun r s' hq' => ?_))
  cases r with
  | error e => exact hx pins _ _ e s' I2 hq'
  | ok fl =>
    cases fl with
    | ret u =>
      obtain ⟨v, H', I3, rv, ev, q3⟩ := I2.after hq'
      subst ev
      exact ⟨rv, ⟨V.ref (s.heap.objs.size + 1), H', I3, rfl, q3⟩⟩
    | next => exact False.elim hq'
    | brk => exact False.elim hq'
    | cont => exact False.elim hq'
theorem pe_makeS (M : Mk X.K C f) (F : FnOk X.prog X.w X.K X.mg X.base CX k f fd ps sp) (hr : Room (k + 1) X.A) (hg : Gl X x) (hm : X.mg x = some (.ref C)) (hb : Binds X.K fd ps []) (hx : ∀ σ, PassesAt CX X σ (E σ))
    (ha : PA X (e :: es) t) (hdb : (x == ("__debug__" : Str)) = false := by decide) (he : starEach (e :: es) X.env = (false, eval e X.env) :: starEach es X.env := by rfl) (hpl : (backTo pos (starEach es X.env)).any (·.1) = false := by rfl) :
    PE X (.Call (.Name x p) (e :: es) [] pos) (tMakeS C sp E t) := by
  refine ⟨fun pins s σ H Q I h => ?_⟩
  refine wpAny_Call_Name_kw (ld_glob I hg hm ?_ hdb)
  refine PySem.W.callWith_K (h₀ := X.base) I.ok.mod.kin M.kp (thn (ha.run pos pins s σ H _ I h) fun us s1 ⟨vs, H1, I1, r, q⟩ => ⟨I1.kIn, ?_⟩) he hpl
  exact run_makeS M F hr hb (hx σ) I1 r q
theorem pe_makeS0 (M : Mk X.K C f) (F : FnOk X.prog X.w X.K X.mg X.base CX k f fd ps sp) (hr : Room (k + 1) X.A) (hg : Gl X x) (hm : X.mg x = some (.ref C)) (hb : Binds X.K fd ps []) (hx : ∀ σ, PassesAt CX X σ (E σ))
    (hdb : (x == ("__debug__" : Str)) = false := by decide) : PE X (.Call (.Name x p) [] [] pos) (tMakeS C sp E tNil) := by
  refine ⟨fun pins s σ H Q I h => ?_⟩
  refine wpAny_Call_Name_kw (ld_glob I hg hm ?_ hdb)
  exact PySem.W.callWith_K0 I.kIn M.kp (run_makeS (us := []) M F hr hb (hx σ) I .nil h)
theorem zpe_fld {K : PySem.W.Frag} {fl : Str} (hK : X.K = K) (he : PE X e ta) (hb : attributeBase e fl X.env (eval e X.env) = eval e X.env) : PE X (.Attribute e fl pos) (tFld K ta fl) := hK ▸ pe_fld he hb
theorem zps_fld {K : PySem.W.Frag} {fl : Str} {value : Expr} {tv : TE} {pos' : Pos} (hK : X.K = K) (ha : PE X o ta) (hv : PE X value tv) (hs : swapsWith value (some (.Attribute o fl pos')) pos.line X.env = pure false) : PS X (.Assign [.Attribute o fl pos'] value pos) (sFld K ta tv fl) := hK ▸ ps_fld ha hv hs
end
section
variable {K : PySem.W.Frag} {rs R : Grp} {H Ho : Hp} {σ : L2.St} {Q : VK} {QH : Hp → Prop} {v y : V} {a dx q : Addr} {cn f m : Str} {ns : List Str} {vs : List V} {i : Nat} {ta tv : TE} {t : TA} {u : TS} {D : Ends} {C : Addr} {sp : Sp} {E : L2.St → XK} {G : V → Hp → Prop}
theorem y_fld (k : ta σ H fun x H1 => FldK K Q f x H1) : tFld K ta f σ H Q := k
theorem y_sfld (k : tv σ H fun y H1 => LetV (fun y => ta σ H1 fun x H2 => SFldK K (fun H3 => u D σ H3) f y x H2) y) : tSeq (sFld K ta tv f) u D σ H := k
theorem y_meth (k : ta σ H fun x H1 => MetK C m (fun x H1 => t σ H1 fun vs H2 => sp (x :: vs) H2 Q (E σ)) x H1) : tMethS C m sp E ta t σ H Q := k
theorem y_make (k : t σ H fun vs H1 => MkK C (fun x H2 => sp (x :: vs) H2 (fun v H3 => v = .non ∧ Q x H3) (E σ)) H1) : tMakeS C sp E t σ H Q := k
theorem o_fld (c : CF K q cn ns) (hm : ∀ r ∈ ([(a, HO.ins q dx (ns.zip vs))] : Grp), r ∈ rs) (z : Zs rs H Ho) (hn : ns[i]? = some f) (hv : vs[i]? = some v) (k : Q v H) : FldK K Q f (.ref a) H :=
  ⟨a, q, dx, _, v, rfl, (z.rt _ (hm _ List.mem_cons_self)).1, c.cl, c.na f (List.mem_of_getElem? hn), lk_zip c.nd hn hv, k⟩
/-- what an instance that stands for good is as data -/
def pyIns (cn : Str) (ns : List Str) (ds : List PyData) : PyData := .dict [(.str cn, .list (ns.map .str)), (.none, .tuple ds)]
theorem strs_inj : ∀ {ns ms : List Str}, ns.map PyData.str = ms.map PyData.str → ns = ms
  | [], [], _ => rfl
  | [], _ :: _, h => by cases h
  | _ :: _, [], h => by cases h
  | n :: ns, m :: ms, h => by
    rw [List.map_cons, List.map_cons] at h
    injection h with h1 h2
    injection h1 with h1
    rw [h1, strs_inj h2]
theorem dq_ins {d : PyData} {ds : List PyData} (h : Dq K Ho v d) (e : d = pyIns cn ns ds) : ∃ a C dx vs, v = .ref a ∧ PySem.W.nsIn K mainGlobals cn = some (some (.ref C)) ∧ Ho a = some (.ins C dx (ns.zip vs)) ∧ DqAll K Ho vs ds := by
  cases h with
  | @ins a dx C cn' ns' vs ds' hC hs hd =>
    unfold pyIns at e
    injection e with e
    injection e with e1 e2
    injection e1 with e3 e4
    injection e3 with e3
    injection e4 with e4
    injection e2 with e5 _
    injection e5 with _ e6
    injection e6 with e6
    have e7 := strs_inj e4
    subst e3 e7 e6
    exact ⟨a, C, dx, vs, rfl, hC, hs, hd⟩
  | _ => cases e
theorem o_fldD {α β : Type} [Py α] [Py β] {x : α} {w : β} {ds : List PyData} (c : CF K q cn ns) (d : Z.D K Ho v x) (hx : toPy x = pyIns cn ns ds) (z : Zs rs H Ho) (hn : ns[i]? = some f) (hd : ds[i]? = some (toPy w)) (k : ∀ u, Z.D K Ho u w → Q u H) : FldK K Q f v H := by
  obtain ⟨a, C, dx, vs, rfl, hC, hs, ha⟩ := dq_ins d hx
  obtain rfl := c.eq hC
  obtain ⟨u, hu, du⟩ := dpAll_get ha hd
  exact ⟨a, q, dx, _, u, rfl, z.le _ _ hs, c.cl, c.na f (List.mem_of_getElem? hn), lk_zip c.nd hn hu, k u du⟩
theorem len_zip_few {vs : List V} (c : CF K q cn ns) : (ns.zip vs).length < 1000 := by
  rw [List.length_zip]
  have := c.few
  omega
/-- a field gets a value -/
theorem o_sfld (c : CF K q cn ns) (z : Zs ([(a, HO.ins q dx (ns.zip vs))] ++ R) H Ho) (hn : ns[i]? = some f) (hi : i < vs.length) (k : ∀ H', Zs ([(a, HO.ins q dx (ns.zip (vs.set i y)))] ++ R) H' Ho → QH H') : SFldK K QH f y (.ref a) H :=
  ⟨a, q, dx, _, rfl, Zs.head z, c.cl, c.na f (List.mem_of_getElem? hn), len_zip_few c, by
    rw [put_zip c.nd hn hi]
    exact k _ (Zs.put z)⟩
theorem o_nfld (c : CF K q cn ns) (z : Zs ([(a, HO.ins q dx (ns.zip vs))] ++ R) H Ho) (hn : ns[vs.length]? = some f) (k : ∀ H', Zs ([(a, HO.ins q dx (ns.zip (vs ++ [y])))] ++ R) H' Ho → QH H') : SFldK K QH f y (.ref a) H :=
  ⟨a, q, dx, _, rfl, Zs.head z, c.cl, c.na f (List.mem_of_getElem? hn), len_zip_few c, by
    rw [put_new c.nd hn]
    exact k _ (Zs.put z)⟩
theorem o_met (hm : ∀ r ∈ ([(a, HO.ins q dx (ns.zip vs))] : Grp), r ∈ rs) (z : Zs rs H Ho) (hn : m ∉ ns) (k : G (.ref a) H) : MetK q m G (.ref a) H :=
  ⟨a, dx, _, rfl, (z.rt _ (hm _ List.mem_cons_self)).1, lk_none hn, k⟩
theorem o_mk (z : Zs rs H Ho) (k : ∀ a dx H' Ho', Same Ho Ho' → Zs ([(a, HO.ins C dx (ns.zip []))] ++ rs) H' Ho' → G (.ref a) H') : MkK C G H := fun x dx hx hd ne => by
  have e : Same Ho (upd Ho dx (.own x)) := Same.new (z.free hd)
  refine k x dx _ _ e ?_
  have z1 : Zs rs (upd H dx (.own x)) (upd Ho dx (.own x)) := z.alloc hd
  have hx' : (upd H dx (.own x)) x = none := by rw [upd_ne (fun e => ne e.symm)]; exact hx
  have z2 := z1.root (o := HO.ins C dx (ns.zip [])) hx'
  rw [List.zip_nil_right] at z2 ⊢
  exact z2
end
section
variable {β γ : Type} {R : Grp} {H Ho : Hp} {Φ : γ → Prop}
theorem h_nmG {P : β → Prop} {X : Prop} {e : β} {f : β → W γ} (hw : (W.bind (W.ret e) f).run Φ) (o : P e) (k : ∀ x, P x → (f x).run Φ → X) : X := k e o hw
theorem l_oG {P : V → β → Grp → Prop} {G : V → Prop} {v : V} {e : β} {g : Grp} {f : β → W γ} (hw : (W.bind (W.ret e) f).run Φ) (z : Zs (g ++ R) H Ho) (o : P v e g) (k : ∀ x v g, Zs (g ++ R) H Ho → P v x g → (f x).run Φ → G v) : LetV G v := k e v g z o hw
end
/-- a method that stands at f -/
structure MCal (P : Program) (w : World) (K : PySem.W.Frag) (mg : Str → Option Value) (base : Heap) (CX : CXT) (q : Addr) (m : Str) (ps : List Str) (k : Nat) (sp : Sp) (f : Addr) (fd : FuncData) : Prop where
  ok : FnOk P w K mg base CX k f fd ps sp
  me : Meth K q m f
  b : Binds K fd ps []
/-- a class's __init__ -/
structure KCal (P : Program) (w : World) (K : PySem.W.Frag) (mg : Str → Option Value) (base : Heap) (CX : CXT) (q : Addr) (cn : Str) (ps : List Str) (k : Nat) (sp : Sp) (f : Addr) (fd : FuncData) : Prop where
  ok : FnOk P w K mg base CX k f fd ps sp
  mk_ : Mk K q f
  g : mg cn = some (.ref q)
  b : Binds K fd ps []
end Z

/-! # objects whose class has its own len, str, ==; isinstance; a dict's copy -/
namespace NeX
open PySem PySem.Spec PyProof.Rows PySem.SeqAt PySem.W Builtin
section
variable {M : Model} {prog : Program} {w : World} {A : Around} {E : Value → Shared → Prop} {s : Shared} {K : PySem.W.Frag} {x y C f : Addr} {ox oy : Obj} {od od' : Option Obj}
theorem ifBound_objNe {args : List Value} {Q : Option Value → Shared → Prop} (X : K.In s.heap) (I : PySem.W.InstAt s.heap x ox C od) (hs : PySem.W.findIn K (.ref C) "__ne__" = some (some (.builtin "object.__ne__")))
    (h : wpAny M A (call (.builtin "object.__ne__") (.ref x :: args)) (fun v => Q (some v)) E s) : wpAny M A (callSpecialIfBound? (.ref x) "__ne__" args) Q E s := by
  simp only [callSpecialIfBound?, bindSpecialIfBound?]
  refine wpAny_holding (wpAny_bind (wpAny_bind (wpAny_bind (I.type.here ((PySem.W.looks_findIn X hs).here ?_)))))
  refine wpAny_bind (wpAny_askSetting (wpAny_ite ?_))
  have fin : wpAny M A (call (.builtin "object.__ne__") ([.ref x] ++ args) >>= fun v => pure (some v)) Q E s := wpAny_bind (wpAny_mono h (fun v s' h' => wpAny_pure h') fun _ _ h' => h')
  split
  · exact wpAny_bind (wpAny_of_eq (F.cmp_object.ne.bind _) (wpAny_pure (by exact fin)))
  · exact wpAny_tryCatch (wpAny_bind (wpAny_of_eq (F.cmp_object.ne.bind _) (wpAny_pure (by exact fin))))
theorem entry_ne {Q : Fin → Shared → Prop} (hu : A.units < cLine) (X : K.In s.heap) (I : PySem.W.InstAt s.heap x ox C od) (hs : PySem.W.findIn K (.ref C) "__eq__" = some (some (.ref f))) (hf : PySem.W.isFn K (.ref f) = true)
    (hcall : wpAny (model prog w) A (call (.ref f) [.ref x, .ref y]) (fun v s' => ∃ b, v = .bool b ∧ Q (.done (.ret (.bool (!b)))) s') E s) : wpAny (model prog w) A (Builtin.«object.__ne__» ⟨[.ref x, .ref y], []⟩) Q E s := by
  unfold Builtin.«object.__ne__»
  repeat (first
    | with_reducible refine wpAny_cRoomFor hu ?_
    | (refine wpAny_bind (m := callSpecialIfBound? (.ref x) (Str.ofString "__eq__") [.ref y])
        (PySem.W.ifBound_K X I hs hf (wpAny_mono hcall (fun r s' hr => by
          obtain ⟨b, rfl, hq⟩ := hr
          repeat (first | exact hq | exact wpAny_pure hq | exact wpAny_truthy_bool hq | (refine wpAny_bind (m := truthy (.bool _)) (wpAny_truthy_bool ?_)) | wp_step)) fun _ _ e => e)))
    | wp_step)
theorem ne_K {Q : Value → Shared → Prop} (hu : A.units < cLine) (hu1 : A.in1.units < cLine) (X : K.In s.heap) (I : PySem.W.InstAt s.heap x ox C od) (J : PySem.W.InstAt s.heap y oy C od')
    (hne : PySem.W.findIn K (.ref C) "__ne__" = some (some (.builtin "object.__ne__"))) (hm : PySem.W.mroIn K C (.type "object") = some true)
    (hs : PySem.W.findIn K (.ref C) "__eq__" = some (some (.ref f))) (hf : PySem.W.isFn K (.ref f) = true)
    (h : wpAny (model prog w) A.in1 (call (.ref f) [.ref x, .ref y]) (fun v s' => ∃ b, v = .bool b ∧ Q (.bool (!b)) s') E s) : wpAny (model prog w) A (richCompare .NotEq (.ref x) (.ref y)) Q E s := by
  have one : wpAny (model prog w) A (tryCompare (.ref x) "__ne__" (.ref y)) (fun r s' => ∃ b, r = some (.bool b) ∧ Q (.bool b) s') E s := by
    unfold tryCompare
    refine wpAny_bind (ifBound_objNe X I hne (wpAny_call (codeAny_call_builtin F.cmp_object.ne.plain F.cmpEntry_ne (PySem.W.check_slot F.cmpKind_ne F.cmpSplit_ne (I.type.andThen (PySem.W.looks_mroIn X hm)) (F.cmpArgs_ne _ _) (entry_ne hu1 X I hs hf (wpAny_mono h (fun v s' hv => ?_) fun _ _ e => e))))))
    obtain ⟨b, rfl, hq⟩ := hv
    first | exact ⟨b, rfl, wpAny_pure ⟨_, rfl, hq⟩⟩ | exact ⟨b, rfl, wpAny_pure (wpAny_pure ⟨_, rfl, hq⟩)⟩
  unfold richCompare
  simp only [oneThing_ref, cmpInfo_NotEq]
  refine wpAny_holding (wpAny_bind (wpAny_cRoomFor hu ?_))
  refine wpAny_bind (I.type.here (wpAny_bind (J.type.here ?_)))
  split
  · rename_i q
    exact absurd q (by simp)
  · refine wpAny_bind (wpAny_pure ?_)
    simp only [Bool.false_eq_true, if_false]
    refine wpAny_bind (wpAny_mono one (fun r s' z => ?_) fun _ _ e => e)
    obtain ⟨v, rfl, hq⟩ := z
    exact wpAny_pure hq
end
end NeX
namespace Z
open PySem PySem.Spec PyProof.Rows L2
section
variable {X : Cx} {pins : List (Addr × Obj)} {σ : L2.St} {H : Hp} {s : Shared} {C f : Addr} {fd : FuncData} {ps : List Str} {sp : Sp} {k : Nat}
theorem run_atS {A : Around} {E : XK} {Q : VK} {us : List Value} {vs : List V} (F : FnOk X.prog X.w X.K X.mg X.base CX0 k f fd ps sp) (hr : Room k A) (e0 : Env0 X.prog X.w X.K X.mg X.base A X.stack s H) (hb : Binds X.K fd ps []) (I : Inv X pins σ H s) (r : Vals vs us) (h : sp vs H Q E) :
    wpAny (model X.prog X.w) A (call (.ref f) us) (EP X pins σ Q) X.xe s := by
  have hl : us.length = ps.length := by rw [← r.length]; exact F.len _ _ _ _ h
  have b := hb s us I.kIn (by rw [List.append_nil]; exact hl)
  rw [List.append_nil] at b
  refine wpAny_call (codeAny_mono (F.run A X.stack s H ⟨us, []⟩ us vs Q E hr e0 b r h) fun r s' hq => ?_)
  cases r with
  | error e => exact pass0 pins σ H s e s' I hq
  | ok fl =>
    cases fl with
    | ret u => exact I.after hq
    | next => exact False.elim hq
    | brk => exact False.elim hq
    | cont => exact False.elim hq
def rLenO (C : Addr) (sp : Sp) : List V → Hp → VK → Prop := fun xs H Q => ∃ a dx fs, xs = [.ref a] ∧ H a = some (.ins C dx fs) ∧ sp [.ref a] H (fun z H' => ∃ n : Int, z = .int n ∧ 0 ≤ n ∧ n < 2 ^ 63 ∧ Q (.int n) H') E0
theorem call_lenO (hm : Meth X.K C "__len__" f) (F : FnOk X.prog X.w X.K X.mg X.base CX0 k f fd ps sp) (hr : Room (k + 1) X.A) (hb : Binds X.K fd ps []) : CallR X (.builtin "len") (rLenO C sp) := by
  intro pins s σ H xs us Q I r h
  obtain ⟨a, dx, fs, rfl, ha, q⟩ := h
  obtain ⟨u, rfl, ru⟩ := vals1 r
  cases (show u = Value.ref a from ru)
  obtain ⟨mA, J, _⟩ := ins_get I.hok ha
  obtain ⟨od, J, _⟩ := J.look
  obtain ⟨m, hF⟩ := I.fr
  refine PySem.W.len_K hF I.ok.mod.kin J hm.at_ hm.fn (wpAny_mono (run_atS (us := [.ref a]) (vs := [.ref a]) F hr.in1 I.env0.in1 hb I (.cons rfl .nil) q) (fun w s' z => ?_) fun _ _ x => x)
  obtain ⟨z', H', I', rz, n, en, n0, n1, qz⟩ := z
  subst en
  obtain ⟨t, e⟩ := (show ∃ t, w = Value.int n t from rz)
  cases e
  exact ⟨⟨n0, n1⟩, .int n, H', I'.tok _, ⟨_, rfl⟩, qz⟩
def rStrO (C : Addr) (sp : Sp) : List V → Hp → VK → Prop := fun xs H Q => ∃ a dx fs, xs = [.ref a] ∧ H a = some (.ins C dx fs) ∧ sp [.ref a] H (fun z H' => ∃ y : Str, z = .str y ∧ Q (.str y) H') E0
theorem call_strO (hm : Meth X.K C "__str__" f) (F : FnOk X.prog X.w X.K X.mg X.base CX0 k f fd ps sp) (hr : Room (k + 2) X.A) (hb : Binds X.K fd ps []) : CallR X (.type "str") (rStrO C sp) := by
  intro pins s σ H xs us Q I r h
  obtain ⟨a, dx, fs, rfl, ha, q⟩ := h
  obtain ⟨u, rfl, ru⟩ := vals1 r
  cases (show u = Value.ref a from ru)
  obtain ⟨mA, J, _⟩ := ins_get I.hok ha
  obtain ⟨od, J, _⟩ := J.look
  have hr2 : Room k X.A.in1.in1 := (show Room (k + 1) X.A.in1 from Room.in1 hr).in1
  refine PySem.W.kso_call hr2.units0 I.kIn J hm.at_ hm.fn (wpAny_mono (run_atS (us := [.ref a]) (vs := [.ref a]) F hr2 I.env0.in1.in1 hb I (.cons rfl .nil) q) (fun w s' z => ?_) fun _ _ x => x)
  obtain ⟨z', H', I', rz, y, en, qz⟩ := z
  subst en
  obtain ⟨t, e⟩ := (show ∃ t, w = Value.str y t from rz)
  cases e
  exact ⟨.str y, H', I', ⟨t, rfl⟩, qz⟩
def rEqO (C : Addr) (sp : Sp) : R2 := fun x y H Q => ∃ a b dx dy fs gs, x = .ref a ∧ y = .ref b ∧ H a = some (.ins C dx fs) ∧ H b = some (.ins C dy gs) ∧ sp [x, y] H Q E0
theorem op_eqO (hm : Meth X.K C "__eq__" f) (F : FnOk X.prog X.w X.K X.mg X.base CX0 k f fd ps sp) (hr : Room k X.A) (hb : Binds X.K fd ps []) : OpR X (compareOp .Eq) (rEqO C sp) := by
  intro pins s σ H x y v u Q I rx ry h
  obtain ⟨a, b, dx, dy, fs, gs, rfl, rfl, ha, hb', q⟩ := h
  cases (show v = Value.ref a from rx)
  cases (show u = Value.ref b from ry)
  obtain ⟨mA, J, _⟩ := ins_get I.hok ha
  obtain ⟨mB, J', _⟩ := ins_get I.hok hb'
  obtain ⟨od, J, _⟩ := J.look
  obtain ⟨od', J', _⟩ := J'.look
  obtain ⟨m, hF⟩ := I.fr
  show wpAny (model X.prog X.w) X.A (richCompare .Eq (.ref a) (.ref b)) (EP X pins σ Q) X.xe s
  refine PySem.W.cmp_K (op := .Eq) (tb := .ref C) hr.units0 hF I.ok.mod.kin J J'.type (by simp [PySem.W.notFirst]) hm.at_ hm.fn ?_
  refine wpAny_mono (run_atS (us := [.ref a, .ref b]) (vs := [.ref a, .ref b]) F hr I.env0 hb I (.cons rfl (.cons rfl .nil)) q) (fun w s' z => ?_) fun _ _ x => x
  obtain ⟨z', H', I', rz, qz⟩ := z
  exact SlX.cmpback rz ⟨z', H', I', rz, qz⟩
end
/-- what != asks of a class -/
structure NI (K : PySem.W.Frag) (q : Addr) : Prop where
  ne : PySem.W.findIn K (.ref q) "__ne__" = some (some (.builtin "object.__ne__"))
  mo : PySem.W.mroIn K q (.type "object") = some true
section
variable {X : Cx} {C f : Addr} {fd : FuncData} {ps : List Str} {sp : Sp} {k : Nat}
def rNeO (C : Addr) (sp : Sp) : R2 := fun x y H Q => ∃ a b dx dy fs gs, x = .ref a ∧ y = .ref b ∧ H a = some (.ins C dx fs) ∧ H b = some (.ins C dy gs) ∧ sp [x, y] H (fun z H' => ∃ t : Bool, z = .bl t ∧ Q (.bl (!t)) H') E0
theorem op_neO (ni : NI X.K C) (hm : Meth X.K C "__eq__" f) (F : FnOk X.prog X.w X.K X.mg X.base CX0 k f fd ps sp) (hr : Room (k + 1) X.A) (hb : Binds X.K fd ps []) : OpR X (compareOp .NotEq) (rNeO C sp) := by
  intro pins s σ H x y v u Q I rx ry h
  obtain ⟨a, b, dx, dy, fs, gs, rfl, rfl, ha, hb', q⟩ := h
  cases (show v = Value.ref a from rx)
  cases (show u = Value.ref b from ry)
  obtain ⟨mA, J, _⟩ := ins_get I.hok ha
  obtain ⟨mB, J', _⟩ := ins_get I.hok hb'
  obtain ⟨od, J, _⟩ := J.look
  obtain ⟨od', J', _⟩ := J'.look
  show wpAny (model X.prog X.w) X.A (richCompare .NotEq (.ref a) (.ref b)) (EP X pins σ Q) X.xe s
  refine NeX.ne_K hr.units0 hr.in1.units0 I.kIn J J' ni.ne ni.mo hm.at_ hm.fn (wpAny_mono (run_atS (us := [.ref a, .ref b]) (vs := [.ref a, .ref b]) F hr.in1 I.env0.in1 hb I (.cons rfl (.cons rfl .nil)) q) (fun w s' z => ?_) fun _ _ x => x)
  obtain ⟨z', H', I', rz, t, et, qz⟩ := z
  subst et
  cases (show w = Value.bool t from rz)
  exact ⟨t, rfl, .bl (!t), H', I', rfl, qz⟩
end
/-- what isinstance asks of a class -/
structure CI (K : PySem.W.Frag) (q : Addr) : Prop where
  ca : PySem.W.findIn K (.ref q) "__class__" = some (some (.builtin "object.__class__"))
  cn : PySem.W.specialIn K (.builtin "object.__class__") "__get__" = some (some (.builtin "getset_descriptor.__get__"))
  ct : PySem.W.takesIn K (.builtin "object.__class__") = some true
  cm : PySem.W.mroIn K q (.type "object") = some true
  kt : PySem.W.kitOne K (.ref q) (.ref q) = some true
section
variable {K : PySem.W.Frag} {H Ho : Hp} {R : Grp} {Q : VK} {C q : Addr} {v w : V} {sp : Sp} {m : Str} {cn : Str} {ns : List Str} {α : Type} [Py α]
theorem y_lenO (k : MetK C "__len__" (fun x H => sp [x] H (fun z H' => ∃ n : Int, z = .int n ∧ 0 ≤ n ∧ n < 2 ^ 63 ∧ Q (.int n) H') E0) v H) : rLenO C sp [v] H Q := by
  obtain ⟨a, dx, fs, rfl, h, _, k⟩ := k
  exact ⟨a, dx, fs, rfl, h, k⟩
theorem y_strO (k : MetK C "__str__" (fun x H => sp [x] H (fun z H' => ∃ y : Str, z = .str y ∧ Q (.str y) H') E0) v H) : rStrO C sp [v] H Q := by
  obtain ⟨a, dx, fs, rfl, h, _, k⟩ := k
  exact ⟨a, dx, fs, rfl, h, k⟩
theorem y_eqO (k : MetK C "__eq__" (fun x H => MetK C "__eq__" (fun y H => sp [x, y] H Q E0) w H) v H) : rEqO C sp v w H Q := by
  obtain ⟨a, dx, fs, rfl, h, _, k⟩ := k
  obtain ⟨b, dy, gs, rfl, h', _, k⟩ := k
  exact ⟨a, b, dx, dy, fs, gs, rfl, rfl, h, h', k⟩
theorem y_neO (k : MetK C "__eq__" (fun x H => MetK C "__eq__" (fun y H => sp [x, y] H (fun z H' => ∃ t : Bool, z = .bl t ∧ Q (.bl (!t)) H') E0) w H) v H) : rNeO C sp v w H Q := by
  obtain ⟨a, dx, fs, rfl, h, _, k⟩ := k
  obtain ⟨b, dy, gs, rfl, h', _, k⟩ := k
  exact ⟨a, b, dx, dy, fs, gs, rfl, rfl, h, h', k⟩
theorem y_isiO' (c : CF K q cn ns) (ci : CI K q) (k : MetK q "__eq__" (fun _ H => Q (.bl true) H) v H) : rIsi K [v, .ref q] H Q := by
  obtain ⟨a, dx, fs, rfl, h, _, k⟩ := k
  exact ⟨_, _, _, _, true, rfl, .own q, .base (.ins h c.cl ci.ca ci.cn ci.ct ci.cm), ci.kt, k⟩
theorem zstrS {X : Cx} : CallR X (.type "str") (fun xs H Q => ∃ a, xs = [.str a] ∧ Q (.str a) H) := SkE.call_str_str
theorem y_strS {y : Str} (k : Q (.str y) H) : (fun (xs : List V) (H : Hp) (Q : VK) => ∃ a, xs = [.str a] ∧ Q (.str a) H) [.str y] H Q := ⟨y, rfl, k⟩
def rDcp : List V → Hp → VK → Prop := fun xs H Q => ∃ (a : Addr) (kvs : List (Key × V)), xs = [.ref a] ∧ Rd H a (.dK kvs) ∧ ∀ p, H p = none → Q (.ref p) (upd H p (.dK kvs))
theorem zdcp {X : Cx} : CallR X (.type "dict") rDcp := call_dictD
theorem y_dcp {m : Dc Int α} (b : BD K R Ho v m) (z : Zs R H Ho) (k : ∀ p H' g, Zs (g ++ R) H' Ho → OD K Ho (.ref p) m g → Q (.ref p) H') : rDcp [v] H Q := by
  obtain ⟨p, kvs, rfl, d, h⟩ := b.rd z
  refine ⟨p, kvs, rfl, .of h, fun a ha => ?_⟩
  exact k a _ [(a, DKey.ho (κ := Int) kvs)] (z.root ha) ⟨a, kvs, rfl, d, rfl⟩
end
end Z

/-! # a tuple of two pairs of one's own; a loop over it, turn by turn; a borrowed pair -/
namespace Z
open PySem PySem.Spec PyProof.Rows L2
section
variable {K : PySem.W.Frag} {H Ho H' Ho' : Hp} {α β α' β' γ : Type} [Py α] [Py β] [Py α'] [Py β'] {Φ : γ → Prop} {R R' g0 g1 g rs : Grp} {v w u v0 v1 : V} {Q : VK} {σ σ' : L2.St} {x : (List α × List β) × (List α' × List β')} {p : List α × List β} {q : List α' × List β'}
theorem TupAt.dd {x : α} {y : β} (t : TupAt Ho v v0 v1) (d0 : Z.D K Ho v0 x) (d1 : Z.D K Ho v1 y) : Z.D K Ho v (x, y) := by
  obtain ⟨p, rfl, hp⟩ := t
  exact .tup hp (.cons d0 (.cons d1 .nil))
def OPP (K : PySem.W.Frag) (Ho : Hp) (v : V) (x : (List α × List β) × (List α' × List β')) (g : Grp) : Prop := ∃ v0 v1 g0 g1, TupAt Ho v v0 v1 ∧ OP K Ho v0 x.1 g0 ∧ OP K Ho v1 x.2 g1 ∧ g = g0 ++ g1
theorem OPP.mo (h : OPP K Ho v x g) (e : Same Ho Ho') : OPP K Ho' v x g := by
  obtain ⟨v0, v1, g0, g1, t, o0, o1, rfl⟩ := h
  exact ⟨v0, v1, g0, g1, t.mo e, o0.mo e, o1.mo e, rfl⟩
theorem pp_open {P : Prop} (o : OPP K Ho v x g) (z : Zs (g ++ R) H Ho) (k : ∀ v0 v1 g0 g1, TupAt Ho v v0 v1 → OP K Ho v0 x.1 g0 → OP K Ho v1 x.2 g1 → Zs (g0 ++ (g1 ++ R)) H Ho → P) : P := by
  obtain ⟨v0, v1, g0, g1, t, o0, o1, rfl⟩ := o
  rw [List.append_assoc] at z
  exact k v0 v1 g0 g1 t o0 o1 z
theorem pp_close {P : Prop} (t : TupAt Ho v v0 v1) (o0 : OP K Ho v0 p g0) (o1 : OP K Ho v1 q g1) (z : Zs (g0 ++ (g1 ++ R)) H Ho) (k : ∀ g, OPP K Ho v (p, q) g → Zs (g ++ R) H Ho → P) : P :=
  k (g0 ++ g1) ⟨v0, v1, g0, g1, t, o0, o1, rfl⟩ (by rw [List.append_assoc]; exact z)
theorem pp_fr {P : Prop} (o : OPP K Ho v x g) (z : Zs (g ++ R) H Ho) (k : ∀ Ho', Same Ho Ho' → Zs R H Ho' → Z.D K Ho' v x → P) : P := by
  obtain ⟨w0, w1, g0, g1, t, o0, o1, rfl⟩ := o
  rw [List.append_assoc] at z
  refine p_fr o0 z fun Ho1 e1 z1 d0 => ?_
  refine p_fr (o1.mo e1) z1 fun Ho2 e2 z2 d1 => ?_
  exact k Ho2 (e1.trans e2) z2 (TupAt.dd ((t.mo e1).mo e2) (D.mo d0 e2) d1)
theorem pp_o {G : V → Prop} {e : (List α × List β) × (List α' × List β')} {f : (List α × List β) × (List α' × List β') → W γ} (hw : (W.bind (W.ret e) f).run Φ) (z : Zs (g ++ R) H Ho) (o : OPP K Ho v e g) (k : ∀ x v g, Zs (g ++ R) H Ho → OPP K Ho v x g → (f x).run Φ → G v) : LetV G v := k e v g z o hw
/-- a pair of lists that another holds -/
def LP (K : PySem.W.Frag) (R : Grp) (Ho : Hp) (v : V) (x : List α × List β) : Prop := ∃ v0 v1, TupAt Ho v v0 v1 ∧ LV K R Ho v0 x.1 ∧ LV K R Ho v1 x.2
theorem LP.of2 {xs : List α} {ys : List β} (t : TupAt Ho v v0 v1) (l0 : LV K R Ho v0 xs) (l1 : LV K R Ho v1 ys) : LP K R Ho v (xs, ys) := ⟨v0, v1, t, l0, l1⟩
/-- an iterator over a tuple of two -/
def Tw (K : PySem.W.Frag) (J : It) (v v0 v1 : V) : Prop := ∀ rs H' Ho', TupAt Ho' v v0 v1 → Zs rs H' Ho' → J.go 0 H' ∧ (∀ x H'', J.yld 0 H' x H'' → H'' = H' ∧ x = v0) ∧ J.go 1 H' ∧ (∀ x H'', J.yld 1 H' x H'' → H'' = H' ∧ x = v1) ∧ J.stop 2 H'
theorem tw_tup {a : Addr} : Tw K (Itt K a) (.ref a) v0 v1 := by
  rintro rs H' Ho' ⟨p, e, hp⟩ z
  cases e
  have s : SqT K H' a [v0, v1] := SqT.of (z.le _ _ hp)
  exact ⟨⟨_, _, s, rfl⟩, fun x H'' y => ⟨y.1, (Option.some.inj (y.2 _ s)).symm⟩, ⟨_, _, s, rfl⟩, fun x H'' y => ⟨y.1, (Option.some.inj (y.2 _ s)).symm⟩, _, s, Nat.le_refl _⟩
theorem k_srcTw {R : It → Hp → Prop} (t : TupAt Ho v v0 v1) (z : Zs rs H Ho) (k : ∀ J, Tw K J v v0 v1 → R J H) : SrcT K R v H := by
  obtain ⟨p, rfl, hp⟩ := t
  exact ⟨p, rfl, ⟨_, SqT.of (z.le _ _ hp)⟩, k _ tw_tup⟩
variable {g' : TG} {u1 tb : TS} {D : Ends} {J : It}
def Nx2 (u : TS) (D : Ends) (J : It) : L2.St → Hp → Prop := fun σ' H' => J.stop 2 H' ∧ u D σ' H'
def Nx1 (g : TG) (tb u : TS) (D : Ends) (J : It) : L2.St → Hp → Prop := fun σ' H' => J.go 1 H' ∧ ∀ x H'', J.yld 1 H' x H'' → g x σ' H'' fun σ2 H2 => tb { D with nx := Nx2 u D J, ct := Nx2 u D J, bk := u D } σ2 H2
theorem y_for2 (T : Tw K J v v0 v1) (t : TupAt Ho v v0 v1) (z : Zs rs H Ho) (k : g' v0 σ H fun σ2 H2 => tb { D with nx := Nx1 g' tb u1 D J, ct := Nx1 g' tb u1 D J, bk := u1 D } σ2 H2) : ForG g' tb u1 D σ J H := by
  refine ⟨fun i m σ' H' => (i = 0 ∧ m = 2 ∧ σ' = σ ∧ H' = H) ∨ (i = 1 ∧ m = 1 ∧ Nx1 g' tb u1 D J σ' H') ∨ (i = 2 ∧ m = 0 ∧ Nx2 u1 D J σ' H'), ⟨2, .inl ⟨rfl, rfl, rfl, rfl⟩⟩, ?_⟩
  rintro i m σ' H' (⟨rfl, rfl, rfl, rfl⟩ | ⟨rfl, rfl, n1⟩ | ⟨rfl, rfl, n2⟩)
  · obtain ⟨a, b, _⟩ := T _ _ _ t z
    refine .inr ⟨a, Nx1 g' tb u1 D J, fun σ' H' n => ⟨1, by decide, .inr (.inl ⟨rfl, rfl, n⟩)⟩, fun x H'' y => ?_⟩
    obtain ⟨rfl, rfl⟩ := b x H'' y
    exact k
  · exact .inr ⟨n1.1, Nx2 u1 D J, fun σ' H' n => ⟨0, by decide, .inr (.inr ⟨rfl, rfl, n⟩)⟩, n1.2⟩
  · exact .inl n2
theorem y_nx1 {E : Ends} (hE : E.nx = Nx1 g' tb u1 D J) (T : Tw K J v v0 v1) (t : TupAt Ho v v0 v1) (z : Zs rs H Ho) (k : g' v1 σ H fun σ2 H2 => tb { D with nx := Nx2 u1 D J, ct := Nx2 u1 D J, bk := u1 D } σ2 H2) : tNext E σ H := by
  show E.nx σ H
  rw [hE]
  obtain ⟨_, _, a, b, _⟩ := T _ _ _ t z
  refine ⟨a, fun x H'' y => ?_⟩
  obtain ⟨rfl, rfl⟩ := b x H'' y
  exact k
theorem y_nx2 {E : Ends} (hE : E.nx = Nx2 u1 D J) (T : Tw K J v v0 v1) (t : TupAt Ho v v0 v1) (z : Zs rs H Ho) (k : u1 D σ H) : tNext E σ H := by
  show E.nx σ H
  rw [hE]
  obtain ⟨_, _, _, _, a⟩ := T _ _ _ t z
  exact ⟨a, k⟩
end
end Z

/-! # a comprehension over the keys of a dict of its own -/
namespace Z
open PySem PySem.Spec PyProof.Rows L2
section
variable {K : PySem.W.Frag} {H Ho H' Ho' : Hp} {α β γ : Type} [Py α] [Py β] {Φ : γ → Prop} {R rs : Grp} {v w u : V} {Q : VK} {σ : L2.St} {tt : TT} {te td t : TE} {g : TG} {vs : List Nat}
/-- a dict while its keys are gone through -/
def OF (K : PySem.W.Frag) (Ho : Hp) (v : V) (m : Dc (Int × Int) α) (g : Grp) : Prop := ∃ p kvs od, v = .ref p ∧ DM K Ho kvs m ∧ g = [(p, HO.frz od (DKey.ho (κ := Int × Int) kvs))]
theorem OF.mo {m : Dc (Int × Int) α} {g : Grp} (h : OF K Ho v m g) (e : Same Ho Ho') : OF K Ho' v m g := by
  obtain ⟨p, kvs, od, rfl, d, rfl⟩ := h
  exact ⟨p, kvs, od, rfl, d.mo e, rfl⟩
theorem k_lock {m : Dc (Int × Int) α} {g : Grp} (o : OD K Ho v m g) (z : Zs (g ++ R) H Ho)
    (k : ∀ g' H' Q', Zs (g' ++ R) H' Ho → OF K Ho v m g' → (∀ w R H2 Ho2, Zs (g' ++ R) H2 Ho2 → (∀ H3, Zs (g ++ R) H3 Ho2 → Q w H3) → Q' w H2) → t σ H' Q') : tLockE t σ H Q := by
  obtain ⟨p, kvs, rfl, d, rfl⟩ := o
  refine ⟨p, _, z.head, trivial, fun od => ?_⟩
  refine k [(p, HO.frz od (DKey.ho (κ := Int × Int) kvs))] _ _ z.put ⟨p, kvs, od, rfl, d, rfl⟩ fun w R H2 Ho2 z2 q => ⟨z2.head, q _ z2.put⟩
def SrcK (R : It → Hp → Prop) (x : V) (H : Hp) : Prop := ∃ d o, x = .ref d ∧ ((∃ kvs, H d = some (.frz o (.dK kvs)) ∧ R (Itk d o kvs) H) ∨ ∃ kvs, H d = some (.frz o (.dT kvs)) ∧ R (Itkt d o kvs) H)
theorem k_iKeys {R : It → Hp → Prop} (k : td σ H fun x H1 => SrcK R x H1) : iKeys td σ H R := k
/-- the turns over the keys -/
def KeyT (J : It) (m : Dc (Int × Int) α) (g : Grp) : Prop := ∃ p kvs od, J = Itkt p od kvs ∧ kvs.map (·.1) = m.map (fun p => DKey.key p.1) ∧ g = [(p, HO.frz od (DKey.ho (κ := Int × Int) kvs))]
theorem k_srcK {R : It → Hp → Prop} {m : Dc (Int × Int) α} {g : Grp} (o : OF K Ho v m g) (hs : ∀ r ∈ g, r ∈ rs) (z : Zs rs H Ho) (k : ∀ J, KeyT J m g → R J H) : SrcK R v H := by
  obtain ⟨p, kvs, od, rfl, d, rfl⟩ := o
  exact ⟨p, od, rfl, .inr ⟨kvs, (z.rt _ (hs _ List.mem_cons_self)).1, k _ ⟨p, kvs, od, rfl, d.1, rfl⟩⟩⟩
theorem y_lcK {J : It} {m : Dc (Int × Int) α} {g0 : Grp} {ct : Int × Int → W Bool} {cf : Int × Int → W β} {f : List β → W γ} (z : Zs rs H Ho) (hr : ∀ r ∈ g0, r ∈ rs) (T : KeyT J m g0) (hw : (W.bind (compG (m.map (·.1)) ct cf) f).run Φ)
    (hx : ∀ (r : Addr × HO) a x H' Ho' (N : VK) (N' : Hp → Prop), Same Ho Ho' → Zs (r :: rs) H' Ho' → Z.D K H' x a →
      (W.bind (ct a) fun b => W.ite b (cf a) ⟨fun Ψ => ∀ H'' Ho'', Same Ho' Ho'' → Zs (r :: rs) H'' Ho'' → N' H'', fun _ _ _ q => q⟩).run (fun y => ∀ w H'' Ho'', Same Ho' Ho'' → Zs (r :: rs) H'' Ho'' → Z.D K Ho'' w y → N w H'') →
      g x (wipe σ vs) H' fun σ2 H2 => wipe σ2 vs = wipe σ vs ∧ tt σ2 H2 fun b H3 => if b = true then te σ2 H3 N else N' H3)
    (k : ∀ ys H' Ho', Same Ho Ho' → (f ys).run Φ → ∀ p ws, Zs ((p, .lst ws) :: rs) H' Ho' → DL K Ho' ws ys → Q (.ref p) H') : LcG g tt te vs σ Q J H := by
  intro Dn hD
  obtain ⟨p, kvs, od, rfl, hkv, rfl⟩ := T
  have hmem := hr _ List.mem_cons_self
  obtain ⟨hsz, hw⟩ := hw
  have hlen : kvs.length = m.length := by
    have := congrArg List.length hkv
    simpa using this
  generalize hxs : m.map (·.1) = xs at hsz hw
  have hlx : xs.length = kvs.length := by rw [← hxs, hlen, List.length_map]
  refine ⟨fun i m H => m = xs.length - i ∧ i ≤ xs.length ∧ ∃ (Ho' : Hp) (acc : List β) (acs : List V), Same Ho Ho' ∧ Zs ((Dn, .lst acs) :: rs) H Ho' ∧ DL K Ho' acs acc ∧ acs.length ≤ i ∧ (comp (xs.drop i) acc ct cf).run fun ys => (f ys).run Φ,
    ⟨xs.length, by simp, Nat.zero_le _, Ho, [], [], Same.refl _, z.root hD, .nil, Nat.le_refl _, hw⟩, ?_⟩
  rintro i mm H ⟨rfl, hi, Ho', acc, acs, e', z', da, la, hw⟩
  have hfr : H p = some (.frz od (.dT kvs)) := (z'.rt _ (List.mem_cons_of_mem _ hmem)).1
  by_cases hlt : i < xs.length
  · refine .inr ?_
    have hxi := List.getElem?_eq_getElem hlt
    refine ⟨⟨hfr, by omega⟩, fun H' => ∃ (Ho' : Hp) (acc : List β) (acs : List V), Same Ho Ho' ∧ Zs ((Dn, .lst acs) :: rs) H' Ho' ∧ DL K Ho' acs acc ∧ acs.length ≤ i + 1 ∧ (comp (xs.drop (i + 1)) acc ct cf).run fun ys => (f ys).run Φ, fun H' hN => ⟨xs.length - (i + 1), by omega, rfl, hlt, hN⟩, fun x H' y => ?_⟩
    obtain ⟨rfl, kk, vv, q, hk1, rfl, hq⟩ := y
    have hkey : kk = DKey.key (xs[i]) := by
      have h1 : (kvs.map (·.1))[i]? = some kk := by rw [List.getElem?_map, hk1]; rfl
      have h2 : (m.map (fun p => DKey.key p.1))[i]? = some (DKey.key xs[i]) := by
        have : (m.map (·.1))[i]? = some xs[i] := by rw [hxs]; exact hxi
        rw [List.getElem?_map] at this ⊢
        cases em : m[i]? with
        | none => rw [em] at this; cases this
        | some p => rw [em] at this; rw [← Option.some.inj this]; rfl
      rw [hkv, h2] at h1
      exact (Option.some.inj h1).symm
    have dx : Z.D K H' (.ref q) xs[i] := by
      rw [hkey] at hq
      exact .tup hq (.cons (.int _) (.cons (.int _) .nil))
    rw [drop_cons hxi] at hw
    refine hx (Dn, .lst acs) _ _ H' Ho' _ _ e' z' dx ?_
    have hw : (ct xs[i]).run fun b => (W.ite b (W.bind (cf xs[i]) fun y => comp (xs.drop (i + 1)) (acc ++ [y]) ct cf) (comp (xs.drop (i + 1)) acc ct cf)).run fun ys => (f ys).run Φ := hw
    show (ct xs[i]).run _
    refine W.mono _ _ _ (fun b hb => ?_) hw
    refine ⟨fun e => ?_, fun e H'' Ho'' e3 z3 => ?_⟩
    · refine W.mono _ _ _ (fun y hy w H'' Ho'' e3 z3 dw => ?_) (hb.1 e)
      refine ⟨acs, z3.head, by omega, Ho'', acc ++ [y], acs ++ [w], e'.trans e3, z3.put, (DL.mo da e3).push dw, ?_, hy⟩
      rw [List.length_append]
      exact Nat.succ_le_succ la
    · exact ⟨Ho'', acc, acs, e'.trans e3, z3, DL.mo da e3, Nat.le_succ_of_le la, hb.2 e⟩
  · have e : i = xs.length := by omega
    subst e
    refine .inl ⟨⟨hfr, by omega⟩, ?_⟩
    rw [List.drop_length] at hw
    exact k acc H Ho' e' hw Dn acs z' da
theorem g_dgetF {m : Dc (Int × Int) α} {k : Int × Int} {f : α → W γ} {g : Grp} (o : OF K Ho v m g) (hs : ∀ r ∈ g, r ∈ R) (z : Zs R H Ho) (dk : Z.D K H w k) (hw : (W.bind (W.opt (valM m k)) f).run Φ) (kk : ∀ t u, Z.D K Ho u t → (f t).run Φ → Q u H) : GGet Q v w H := by
  obtain ⟨p, kvs, od, rfl, d, rfl⟩ := o
  obtain ⟨a, ea, hw⟩ := hw
  obtain ⟨x, ex, dx⟩ := (d.val k).2 a ea
  have e := (z.rt _ (hs _ List.mem_cons_self)).1
  refine ⟨p, x, rfl, ?_, kk a x dx hw⟩
  cases dk with
  | tup hs ha =>
    cases ha with
    | cons h1 h2 =>
      cases h2 with
      | cons h3 h4 =>
        cases h4
        rw [d_int h1, d_int h3] at hs
        refine Or.inr ⟨kvs, [.inl k.1, .inl k.2], _, .inr ⟨od, e⟩, rfl, hs, ?_⟩
        rw [← ex]; rfl
end
end Z

/-! # sorted(set(..)) of fewer than 64 tuples of ints; tuples alone are kept of what stands for good -/
namespace Z
open PySem PySem.Spec PyProof.Rows L2
section
variable {α : Type} [Py α] [Ktup α]
def SSok (xs : List α) : Prop := xs.length < 64 ∧ ∀ x ∈ xs, ∀ m ∈ Ktup.key x, 0 ≤ m ∧ m < 1000000
def SSis (xs ys : List α) : Prop := (∀ y, y ∈ ys ↔ y ∈ xs) ∧ ys.Nodup
/-- sorted(set(xs)): each of xs once -/
def srtSet (xs : List α) : W (List α) := ⟨fun Φ => SSok xs ∧ ∀ ys, SSis xs ys → Φ ys, fun _ _ h q => ⟨q.1, fun ys hy => h ys (q.2 ys hy)⟩⟩
variable {K : PySem.W.Frag} {H Ho H' Ho' : Hp} {R : Grp} {v w : V} {Q : VK} {P : Program} {wd : World} {a : Addr} {L : List (Addr × List Int)} {xs : List α}
theorem tup_at {x : α} (d : Z.D K Ho w x) : ∃ p, w = .ref p ∧ Ho p = some (.tup ((Ktup.key x).map V.int)) := by
  have d : Dq K Ho w (toPy x) := d
  rw [Ktup.py] at d
  cases d with
  | tup hs ha =>
    have e := dl_ints (xs := Ktup.key x) ha
    rw [e] at hs
    exact ⟨_, rfl, hs⟩
theorem at_tup {x : α} {p : Addr} (h : Ho p = some (.tup ((Ktup.key x).map V.int))) : Z.D K Ho (.ref p) x := by
  show Dq K Ho (.ref p) (toPy x)
  rw [Ktup.py]
  exact .tup h ints_dl
def SetL (Ho : Hp) (L : List (Addr × List Int)) (xs : List α) : Prop := (∀ p ∈ L, ∃ x ∈ xs, p.2 = Ktup.key x ∧ Ho p.1 = some (.tup ((Ktup.key x).map V.int))) ∧ ∀ x ∈ xs, ∃ p ∈ L, p.2 = Ktup.key x
theorem dl_ks {vs : List V} : ∀ {xs : List α}, DL K Ho vs xs → ∃ ks : List (Addr × List Int), vs = ks.map (fun p => V.ref p.1) ∧ SetL Ho ks xs ∧ ks.length = xs.length := by
  induction vs with
  | nil =>
    intro xs h
    cases xs with
    | nil => exact ⟨[], rfl, ⟨fun p hp => absurd hp List.not_mem_nil, fun x hx => absurd hx List.not_mem_nil⟩, rfl⟩
    | cons x xs => cases h
  | cons v vs ih =>
    intro xs h
    cases xs with
    | nil => cases h
    | cons x xs =>
      cases h with
      | cons h1 h2 =>
        obtain ⟨p, rfl, hp⟩ := tup_at (x := x) h1
        obtain ⟨ks, rfl, ⟨s1, s2⟩, hl⟩ := ih (xs := xs) h2
        refine ⟨(p, Ktup.key x) :: ks, rfl, ⟨fun q hq => ?_, fun y hy => ?_⟩, by rw [List.length_cons, List.length_cons, hl]⟩
        · rcases List.mem_cons.mp hq with e | e
          · subst e
            exact ⟨x, List.mem_cons_self, rfl, hp⟩
          · obtain ⟨y, hy, a, b⟩ := s1 q e
            exact ⟨y, List.mem_cons_of_mem _ hy, a, b⟩
        · rcases List.mem_cons.mp hy with e | e
          · subst e
            exact ⟨_, List.mem_cons_self, rfl⟩
          · obtain ⟨q, hq, a⟩ := s2 y e
            exact ⟨q, List.mem_cons_of_mem _ hq, a⟩
theorem y_setT (d : LV K R Ho v xs) (z : Zs R H Ho) (hl : xs.length < 64) (k : ∀ a L H', Zs ((a, SetTO P wd a L) :: R) H' Ho → SetL Ho L xs → Q (.ref a) H') : rSetOfT K P wd [v] H Q := by
  obtain ⟨p, vs, rfl, d, s⟩ := LV.rd d z
  obtain ⟨ks, rfl, ⟨s1, s2⟩, hk⟩ := dl_ks d
  refine ⟨p, ks, rfl, s, fun q hq => ?_, by omega, fun a L ha h1 h2 => k a L _ (z.root ha) ⟨fun q hq => s1 q (h1 q hq), fun x hx => ?_⟩⟩
  · obtain ⟨x, _, e, ht⟩ := s1 q hq
    rw [e]
    exact SqT.of (z.le _ _ ht)
  · obtain ⟨q, hq, e⟩ := s2 x hx
    obtain ⟨q', hq', e'⟩ := List.mem_map.mp (h2 q hq)
    exact ⟨q', hq', e'.trans e⟩
theorem ks_dl : ∀ {L : List (Addr × List Int)}, (∀ p ∈ L, ∃ x ∈ xs, p.2 = Ktup.key x ∧ Ho p.1 = some (.tup ((Ktup.key x).map V.int))) → ∃ ys : List α, ys.map Ktup.key = L.map (·.2) ∧ DL K Ho (L.map fun p => V.ref p.1) ys ∧ ∀ y ∈ ys, y ∈ xs
  | [], _ => ⟨[], rfl, .nil, fun y hy => by cases hy⟩
  | p :: L, h => by
    obtain ⟨x, hx, e, ht⟩ := h p List.mem_cons_self
    obtain ⟨ys, e1, e2, e3⟩ := ks_dl (L := L) fun q hq => h q (List.mem_cons_of_mem _ hq)
    refine ⟨x :: ys, by rw [List.map_cons, List.map_cons, e1, e], .cons (at_tup ht) e2, fun y hy => ?_⟩
    rcases List.mem_cons.mp hy with q | q
    · rw [q]; exact hx
    · exact e3 y q
theorem y_sortedT (z : Zs ((a, SetTO P wd a L) :: R) H Ho) (s : SetL Ho L xs) (hb : ∀ x ∈ xs, ∀ m ∈ Ktup.key x, 0 ≤ m ∧ m < 1000000) (k : ∀ ys, SSis xs ys → ∀ H' p ws, Zs ((p, .lst ws) :: R) H' Ho → DL K Ho ws ys → Q (.ref p) H') : rSortedT K P wd [.ref a] H Q := by
  refine ⟨a, L, Ktup.d α, 1000000, rfl, z.head, fun p hp => ?_, Ktup.pos, fun p hp => ?_, fun L' p pm nd _ _ hp => ?_⟩
  · obtain ⟨x, _, e, ht⟩ := s.1 p hp
    rw [e]
    exact SqT.of (z.le _ _ ht)
  · obtain ⟨x, hx, e, _⟩ := s.1 p hp
    rw [e]
    exact ⟨Ktup.len x, hb x hx⟩
  · obtain ⟨ys, e1, e2, e3⟩ := ks_dl (K := K) (L := L') fun q hq => s.1 q (pm.mem_iff.mp hq)
    refine k ys ⟨fun y => ⟨e3 y, fun hy => ?_⟩, ?_⟩ _ p _ (z.root hp).sw1.tail e2
    · obtain ⟨q, hq, e⟩ := s.2 y hy
      have : q.2 ∈ ys.map Ktup.key := by rw [e1]; exact List.mem_map.mpr ⟨q, pm.mem_iff.mpr hq, rfl⟩
      obtain ⟨y', hy', ey⟩ := List.mem_map.mp this
      rw [← Ktup.inj y' y (ey.trans e)]
      exact hy'
    · rw [← e1] at nd
      exact List.Pairwise.of_map Ktup.key (fun a b h e => h (congrArg _ e)) nd
end
section
variable {X : Cx} {K : PySem.W.Frag} {P : Program} {w : World}
theorem zsetT (hK : X.K = K) (hP : X.prog = P) (hw : X.w = w) (hc : X.calm = true) (hu : X.A.units + 65 < cLine) : CallR X (.type "set") (rSetOfT K P w) := by
  subst hK hP hw
  exact cr_setOfT hc (by omega)
theorem zsortedT (hK : X.K = K) (hP : X.prog = P) (hw : X.w = w) (hc : X.calm = true) : CallR X (.builtin "sorted") (rSortedT K P w) := by
  subst hK hP hw
  exact cr_sortedT hc
end
/-! ## what stood for good is one's own again -/
section
variable {K : PySem.W.Frag} {H Ho H' Ho' : Hp} {R g : Grp} {v v0 v1 : V} {Q : VK} {α β γ : Type} [Py α] {Φ : γ → Prop}
def Thin (Ho Ho2 : Hp) : Prop := ∀ b vs, Ho b = some (.tup vs) → Ho2 b = some (.tup vs)
class DThin (α : Type) [Py α] : Prop where
  th : ∀ {K : PySem.W.Frag} {Ho Ho2 : Hp} {v : V} {x : α}, Z.D K Ho v x → Thin Ho Ho2 → Z.D K Ho2 v x
instance : DThin Int := ⟨fun d _ => by rw [d_int d]; exact .int _⟩
instance (priority := low) {α : Type} [Py α] [Ktup α] : DThin α := ⟨fun d t => by
  obtain ⟨p, rfl, hp⟩ := tup_at d
  exact at_tup (t _ _ hp)⟩
theorem dl_thin [DThin α] {Ho Ho2 : Hp} (t : Thin Ho Ho2) {vs : List V} : ∀ {xs : List α}, DL K Ho vs xs → DL K Ho2 vs xs := by
  induction vs with
  | nil =>
    intro xs h
    cases xs with
    | nil => exact .nil
    | cons x xs => cases h
  | cons v vs ih =>
    intro xs h
    cases xs with
    | nil => cases h
    | cons x xs =>
      cases h with
      | cons h1 h2 => exact .cons (DThin.th (x := x) h1 t) (ih (xs := xs) h2)
theorem OL.thin [DThin α] {Ho Ho2 : Hp} {xs : List α} (t : Thin Ho Ho2) (o : OL K Ho v xs g) : OL K Ho2 v xs g := by
  obtain ⟨p, vs, rfl, d, rfl⟩ := o
  exact ⟨p, vs, rfl, dl_thin t d, rfl⟩
theorem TupAt.thin {Ho Ho2 : Hp} (t : Thin Ho Ho2) (h : TupAt Ho v v0 v1) : TupAt Ho2 v v0 v1 := by
  obtain ⟨p, rfl, hp⟩ := h
  exact ⟨p, rfl, t _ _ hp⟩
theorem l_oP {P : V → β → Prop} {G : V → Prop} {v : V} {e : β} {f : β → W γ} (hw : (W.bind (W.ret e) f).run Φ) (o : P v e) (k : ∀ x v, P v x → (f x).run Φ → G v) : LetV G v := k e v o hw
end
end Z

/-! # sets of up to some four thousand tuples of ints: the round of x → 5 x + 1 modulo any power of two, and the tables by it -/
namespace Zb
open PySem PySem.Spec PyProof.Rows L2
/-! ## the round -/
def gs : Nat → Nat
  | 0 => 0
  | n + 1 => gs n * 5 + 1
theorem gs_pow : ∀ n, 4 * gs n + 1 = 5 ^ n
  | 0 => rfl
  | n + 1 => by
    rw [Nat.pow_succ, ← gs_pow n]
    show 4 * (gs n * 5 + 1) + 1 = _
    omega
theorem gs_add (a : Nat) : ∀ b, gs (a + b) = 5 ^ b * gs a + gs b
  | 0 => by simp [gs]
  | b + 1 => by
    show gs (a + b) * 5 + 1 = _ + (gs b * 5 + 1)
    rw [gs_add a b]
    grind
theorem gs_two : ∀ k, ∃ c, gs (2 ^ k) = 2 ^ k * (2 * c + 1)
  | 0 => ⟨0, rfl⟩
  | k + 1 => by
    obtain ⟨c, e⟩ := gs_two k
    refine ⟨2 * c * gs (2 ^ k) + c + gs (2 ^ k), ?_⟩
    have h : gs (2 ^ (k + 1)) = (4 * gs (2 ^ k) + 1) * gs (2 ^ k) + gs (2 ^ k) := by rw [gs_pow, ← gs_add, ← Nat.mul_two, ← Nat.pow_succ]
    rw [h, Nat.pow_succ]
    generalize gs (2 ^ k) = g at e ⊢
    generalize 2 ^ k = A at e ⊢
    grind
theorem gs_hits : ∀ (k j : Nat), j < 2 ^ k → ∃ b, b < 2 ^ k ∧ gs b % 2 ^ k = j
  | 0, j, h => ⟨0, Nat.one_pos, by rw [Nat.lt_one_iff.mp h]; rfl⟩
  | k + 1, j, h => by
    obtain ⟨c, ec⟩ := gs_two k
    have hp : 0 < 2 ^ k := Nat.two_pow_pos k
    obtain ⟨b, hb, e⟩ := gs_hits k (j % 2 ^ k) (Nat.mod_lt _ hp)
    have split2 : ∀ x, x % (2 ^ k * 2) = x % 2 ^ k + 2 ^ k * (x / 2 ^ k % 2) := fun x => Nat.mod_mul
    have ej : j = j % 2 ^ k + 2 ^ k * (j / 2 ^ k % 2) := by rw [← split2, Nat.mod_eq_of_lt (by rw [← Nat.pow_succ]; exact h)]
    have eb : gs (b + 2 ^ k) = gs b + 2 ^ k * (2 * (4 * c * gs b + 2 * gs b + c) + 1) := by
      rw [gs_add, ← gs_pow]
      generalize gs (2 ^ k) = y at ec ⊢
      generalize 2 ^ k = A at ec ⊢
      generalize gs b = x
      grind
    rw [Nat.pow_succ]
    by_cases q : gs b / 2 ^ k % 2 = j / 2 ^ k % 2
    · exact ⟨b, by omega, by rw [split2, e, q]; exact ej.symm⟩
    · refine ⟨b + 2 ^ k, by omega, ?_⟩
      have q1 : gs (b + 2 ^ k) % 2 ^ k = j % 2 ^ k := by rw [eb, Nat.add_mul_mod_self_left, e]
      have q2 : gs (b + 2 ^ k) / 2 ^ k % 2 = j / 2 ^ k % 2 := by
        rw [eb, Nat.add_mul_div_left _ _ hp]
        omega
      rw [split2, q1, q2]
      exact ej.symm
theorem lcg_gs (m : Nat) : ∀ n, lcgN m n = gs n % (m + 1)
  | 0 => (Nat.zero_mod _).symm
  | n + 1 => by
    show (lcgN m n * 5 + 1) % (m + 1) = (gs n * 5 + 1) % (m + 1)
    rw [lcg_gs m n, Nat.add_mod, Nat.mul_mod, Nat.mod_mod, ← Nat.mul_mod, ← Nat.add_mod]
/-- the tables' masks, one behind the other -/
def GM (m : Nat) : Prop := m = 7 ∨ m = 31 ∨ m = 127 ∨ m = 511 ∨ m = 2047 ∨ m = 8191
theorem GM.pw {m : Nat} (h : GM m) : ∃ k, m + 1 = 2 ^ k := by
  rcases h with rfl | rfl | rfl | rfl | rfl | rfl
  · exact ⟨3, rfl⟩
  · exact ⟨5, rfl⟩
  · exact ⟨7, rfl⟩
  · exact ⟨9, rfl⟩
  · exact ⟨11, rfl⟩
  · exact ⟨13, rfl⟩
theorem GM.odd {m : Nat} (h : GM m) : m % 2 = 1 := by rcases h with rfl | rfl | rfl | rfl | rfl | rfl <;> rfl
theorem GM.le {m : Nat} (h : GM m) : 10 * SetTable.turns m ≤ 90000 := by
  unfold SetTable.turns
  rcases h with rfl | rfl | rfl | rfl | rfl | rfl <;> decide
theorem hits {m i j : Nat} (hm : GM m) (hi : i ≤ m) (hj : j ≤ m) : ∃ k, k ≤ m ∧ lcgI m i k = j := by
  obtain ⟨e, he⟩ := hm.pw
  have one : ∀ x, x ≤ m → ∃ b, b ≤ m ∧ lcgN m b = x := fun x hx => by
    obtain ⟨b, hb, eb⟩ := gs_hits e x (by omega)
    exact ⟨b, by omega, by rw [lcg_gs, he]; exact eb⟩
  have back : ∀ x, lcgN m (m + 1 + x) = lcgN m x := fun x => by
    obtain ⟨c, ec⟩ := gs_two e
    rw [lcg_gs, lcg_gs, he, gs_add, ec, Nat.mul_left_comm, Nat.mul_add_mod]
  obtain ⟨a, ha, rfl⟩ := one i hi
  obtain ⟨b, hb, rfl⟩ := one j hj
  by_cases c : a ≤ b
  · exact ⟨b - a, by omega, by rw [lcgN_add]; congr 1; omega⟩
  · refine ⟨m + 1 + b - a, by omega, ?_⟩
    rw [lcgN_add, ← back b]
    congr 1
    omega
theorem run_hits {m j : Nat} (hm : GM m) (h : Int) (hj : j ≤ m) : ∃ n, n ≤ m + 12 ∧ runI m (SetTable.bits h) n = j := by
  obtain ⟨k, hk, e⟩ := hits hm (runI_le m (SetTable.bits h) 12) hj
  refine ⟨12 + k, by omega, ?_⟩
  rw [runI_tail (bits_lt h), e]
theorem way_hits {m j : Nat} (hm : GM m) (h : Int) (hj : j ≤ m) : ∃ k, k < 10 * SetTable.turns m ∧ way m h k = j := by
  obtain ⟨n, hn, e⟩ := run_hits hm h hj
  obtain ⟨k, hk, e2⟩ := run_nth m (SetTable.bits h) n
  have lt : k < 10 * SetTable.turns m := by unfold SetTable.turns; omega
  exact ⟨k, lt, (congrArg SetTable.Probe.j e2).trans e⟩
theorem way_in {m : Nat} {h : Int} {k : Nat} : way m h k ≤ m := by
  have b : SetTable.bits h % (m + 1) < m + 1 := Nat.mod_lt _ (Nat.succ_pos m)
  have r := runEnd_bd (m := m) (i := SetTable.bits h % (m + 1)) (by omega)
  have q := nth_in (m := m) k (runAt m (SetTable.bits h % (m + 1)) (SetTable.bits h)) (by dsimp only [runAt]; omega)
  exact Nat.le_trans (Nat.le_add_right _ _) q
/-! ## tables -/
/-- all hashes are found again -/
structure TG (t : SetTable) (hs : List Int) : Prop where
  ri : Ris t.place.toList
  du : t.dummies = #[]
  si : t.place.toList.length = hs.length
  gm : GM t.mask
  le : ∀ x ∈ t.place.toList, x ≤ t.mask
  re : ∀ (i : Nat) (h : Int) (j : Nat), hs[i]? = some h → t.place.toList[i]? = some j → ∃ k, way t.mask h k = j ∧ ∀ c, c < k → way t.mask h c ∈ t.place.toList
section
variable {t : SetTable} {hs : List Int}
theorem TG.hole (T : TG t hs) (hl : hs.length ≤ t.mask) (h : Int) : ∃ K, K < 10 * SetTable.turns t.mask ∧ way t.mask h K ∉ t.place.toList ∧ ∀ k, k < K → way t.mask h k ∈ t.place.toList := by
  obtain ⟨j, hj, no⟩ := st_missing t.place.toList (t.mask + 1) (by have := T.si; omega)
  obtain ⟨k, hk, e⟩ := way_hits T.gm h (Nat.le_of_lt_succ hj)
  obtain ⟨K, h1, h2, h3⟩ := st_least (p := fun k => way t.mask h k ∉ t.place.toList) k (by rw [e]; exact no)
  exact ⟨K, by omega, h2, fun c hc => Classical.byContradiction fun z => h3 c hc z⟩
theorem TG.ahead (T : TG t hs) {h : Int} {K i j : Nat} (hK : way t.mask h K ∉ t.place.toList) (hi : hs[i]? = some h) (hj : t.place.toList[i]? = some j) : ∃ k, k < K ∧ way t.mask h k = j := by
  obtain ⟨k, e, hb⟩ := T.re i h j hi hj
  refine ⟨k, Classical.byContradiction fun z => ?_, e⟩
  rcases Nat.lt_or_ge K k with c | c
  · exact hK (hb K c)
  · obtain rfl : k = K := by omega
    exact hK (by rw [e]; exact List.mem_of_getElem? hj)
/-- one more -/
theorem TG.more (T : TG t hs) {h : Int} {K : Nat} (hK : way t.mask h K ∉ t.place.toList) (hb : ∀ k, k < K → way t.mask h k ∈ t.place.toList) :
    ∃ p, (t.put (way t.mask h K)).2 = p ∧ p ≤ hs.length ∧ TG (t.put (way t.mask h K)).1 (hs.take p ++ h :: hs.drop p) ∧ (t.put (way t.mask h K)).1.fill = hs.length + 1 := by
  have win : way t.mask h K ≤ t.mask := way_in
  obtain ⟨j, ej⟩ : ∃ j, way t.mask h K = j := ⟨_, rfl⟩
  rw [ej] at hK win ⊢
  have cut := (below_cut T.ri j).1
  have si := T.si
  rw [← Array.length_toList, si] at cut
  have pl := put_place t j
  have no : t.place[SetTable.below t.place j]? ≠ some j := by
    rw [← Array.getElem?_toList]
    exact fun e => hK (List.mem_of_getElem? e)
  have ln : (t.put j).1.place.toList.length = hs.length + 1 := by rw [pl, len_ins _ (by omega), si]
  have sub : ∀ x ∈ t.place.toList, x ∈ (t.put j).1.place.toList := fun x hx => by rw [pl]; exact mem_ins.mpr (.inr hx)
  refine ⟨SetTable.below t.place j, rfl, cut, ⟨ris_insert T.ri no, put_dm T.du j, by rw [ln, len_ins _ cut], T.gm, fun x hx => ?_, fun i h' j' a b => ?_⟩, ?_⟩
  · rw [pl, mem_ins] at hx
    rcases hx with rfl | hx
    · exact win
    · exact T.le x hx
  · rw [tins_get _ cut] at a
    rw [pl, tins_get _ (by omega)] at b
    show ∃ k, way t.mask h' k = j' ∧ ∀ c, c < k → way t.mask h' c ∈ (t.put j).1.place.toList
    by_cases c1 : i < SetTable.below t.place j
    · rw [if_pos c1] at a b
      obtain ⟨k, e, z⟩ := T.re i h' j' a b
      exact ⟨k, e, fun c hc => sub _ (z c hc)⟩
    · rw [if_neg c1] at a b
      by_cases c2 : i = SetTable.below t.place j
      · rw [if_pos c2] at a b
        cases a
        cases b
        exact ⟨K, ej, fun c hc => sub _ (hb c hc)⟩
      · rw [if_neg c2] at a b
        obtain ⟨k, e, z⟩ := T.re (i - 1) h' j' a b
        exact ⟨k, e, fun c hc => sub _ (z c hc)⟩
  · show (t.put j).1.place.size + (t.put j).1.dummies.size = _
    rw [← Array.length_toList, ln, put_dm T.du j]
    rfl
end
/-! ## all laid anew -/
theorem free_at {m j : Nat} (hm : GM m) (ow : Array (Option Nat)) (h : Int) (hj : j ≤ m) (hf : oAt ow j = none) :
    ∃ K, SetTable.layClean.free m ow (SetTable.turns m) (SetTable.bits h % (m + 1)) (SetTable.bits h) = some (way m h K) ∧ oAt ow (way m h K) = none ∧ ∀ k, k < K → oAt ow (way m h k) ≠ none := by
  obtain ⟨n, hn, e⟩ := run_hits hm h hj
  have ew : way m h (off m (SetTable.bits h % (m + 1)) (SetTable.bits h) n) = j := by
    have := congrArg SetTable.Probe.j (nth_off m n (SetTable.bits h % (m + 1)) (SetTable.bits h))
    rw [itL_run] at this
    exact this.trans e
  obtain ⟨K, k1, k2, k3⟩ := st_least (p := fun k => oAt ow (way m h k) = none) _ (show oAt ow (way m h (off m (SetTable.bits h % (m + 1)) (SetTable.bits h) n)) = none by rw [ew]; exact hf)
  refine ⟨K, free_spec m ow (SetTable.turns m) n _ _ K (by unfold SetTable.turns; omega) k1 (fun k hk => ?_) ?_, k2, k3⟩
  · exact Option.isNone_eq_false_iff.mpr (Option.isSome_iff_ne_none.mpr (k3 k hk))
  · exact Option.isNone_iff_eq_none.mpr k2
theorem own_more {m : Nat} (hm : GM m) {done : List Int} {ow : Array (Option Nat)} (W : Own m done ow) (hl : done.length ≤ m) (h : Int) :
    ∃ j, SetTable.layClean.free m ow (SetTable.turns m) (SetTable.bits h % (m + 1)) (SetTable.bits h) = some j ∧ Own m (done ++ [h]) (ow.setIfInBounds j (some done.length)) := by
  obtain ⟨ps, lp, ip⟩ := W.ps
  obtain ⟨z, hz, nz⟩ := st_missing ps (m + 1) (by omega)
  obtain ⟨K, e1, e2, e3⟩ := free_at hm ow h (Nat.le_of_lt_succ hz) (Classical.byContradiction fun q => nz (ip z (Nat.le_of_lt_succ hz) q))
  have wm : way m h K ≤ m := way_in
  obtain ⟨j, ej⟩ : ∃ j, way m h K = j := ⟨_, rfl⟩
  rw [ej] at e1 e2 wm
  have new := oAt_set_self (some done.length) (show j < ow.size by rw [W.sz]; omega)
  have old : ∀ i, i ≠ j → oAt (ow.setIfInBounds j (some done.length)) i = oAt ow i := fun i hi => oAt_set_ne _ hi
  have up : ∀ i, oAt ow i ≠ none → oAt (ow.setIfInBounds j (some done.length)) i ≠ none := fun i hi => by
    by_cases c : i = j
    · rw [c, new]; simp
    · rw [old i c]; exact hi
  refine ⟨j, e1, ⟨by rw [Array.size_setIfInBounds, W.sz], fun i k hi e => ?_, fun k hk => ?_, j :: ps, by simp [lp], fun i hi e => ?_⟩⟩
  · by_cases c : i = j
    · rw [c, new] at e
      cases e
      exact ⟨h, K, by simp, by rw [ej, c], fun q hq => up _ (e3 q hq)⟩
    · rw [old i c] at e
      obtain ⟨g, G, a1, a2, a3⟩ := W.at_ i k hi e
      have lt := (List.getElem?_eq_some_iff.mp a1).1
      exact ⟨g, G, by rw [List.getElem?_append_left lt, a1], a2, fun q hq => up _ (a3 q hq)⟩
  · rw [List.length_append, List.length_singleton] at hk
    by_cases c : k < done.length
    · obtain ⟨i, hi, e⟩ := W.all k c
      exact ⟨i, hi, by rw [old i fun q => by rw [q, e2] at e; cases e]; exact e⟩
    · obtain rfl : k = done.length := by omega
      exact ⟨j, wm, new⟩
  · by_cases c : i = j
    · rw [c]; simp
    · rw [old i c] at e
      exact List.mem_cons_of_mem _ (ip i hi e)
theorem own_all {m : Nat} (hm : GM m) : ∀ (rest done : List Int) (ow : Array (Option Nat)), Own m done ow → done.length + rest.length ≤ m →
    ∃ ow', rest.foldl (stepF m) (some (ow, done.length)) = some (ow', (done ++ rest).length) ∧ Own m (done ++ rest) ow'
  | [], done, ow, W, _ => ⟨ow, by rw [List.append_nil]; rfl, by rw [List.append_nil]; exact W⟩
  | h :: rest, done, ow, W, hl => by
    rw [List.length_cons] at hl
    obtain ⟨j, e, W1⟩ := own_more hm W (by omega) h
    obtain ⟨ow', f, W2⟩ := own_all hm rest (done ++ [h]) _ W1 (by rw [List.length_append, List.length_singleton]; omega)
    rw [List.append_assoc, List.length_append, List.length_singleton] at f
    rw [List.append_assoc] at W2
    exact ⟨ow', by rw [List.foldl_cons, stepF_some e]; exact f, W2⟩
theorem laid_anew (t : SetTable) {hs : Array Int} {wanted M : Nat} (hw : SetTable.sizeAbove wanted - 1 = M) (hM : GM M) (hn : hs.size ≤ M) :
    ∃ t' od, t.relaid hs wanted = some (t', od) ∧ od.toList.Perm (List.range hs.size) ∧ TG t' (od.toList.map fun i => hs.getD i 0) ∧ t'.mask = M ∧ t'.led = t.led ∧ t'.plain = t.plain := by
  obtain ⟨ow, f, W⟩ := own_all hM hs.toList [] _ (Own.init M) (by rw [Array.length_toList]; simpa using hn)
  rw [List.nil_append] at f W
  have lay : SetTable.layClean M hs = some ow := by
    rw [layClean_eq]
    exact congrArg (Option.map (·.1)) f
  obtain ⟨lv, elv⟩ : ∃ lv, liveOf M ow = lv := ⟨_, rfl⟩
  have mem : ∀ j k, (j, k) ∈ lv ↔ j ≤ M ∧ oAt ow j = some k := fun j k => by rw [← elv]; exact mem_live W.sz
  have rr := ris_live (fun j => ow.getD j none) (List.range (M + 1)) (show List.Pairwise _ _ from List.pairwise_lt_range)
  have r1 : Ris (lv.map (·.1)) := by rw [← elv]; exact rr.1
  have r2 : ∀ x ∈ lv.map (·.1), x ≤ M := fun x hx => by
    rw [← elv] at hx
    exact Nat.le_of_lt_succ (List.mem_range.mp (rr.2 x hx))
  have onto : ∀ k, k < hs.size → k ∈ lv.map (·.2) := fun k hk => by
    obtain ⟨j, b1, b2⟩ := W.all k (by rw [Array.length_toList]; exact hk)
    exact List.mem_map.mpr ⟨(j, k), (mem j k).mpr ⟨b1, b2⟩, rfl⟩
  have ll : lv.length = hs.size := by
    obtain ⟨ps, p1, p2⟩ := W.ps
    rw [Array.length_toList] at p1
    have a := nat_nodup_len (lv.map fun q : Nat × Nat => q.1) ps (show List.Pairwise _ _ from List.Pairwise.imp (fun h => Nat.ne_of_lt h) r1) fun x hx => by
      obtain ⟨⟨y, k⟩, hq, rfl⟩ := List.mem_map.mp hx
      obtain ⟨b1, b2⟩ := (mem y k).mp hq
      exact p2 y b1 (by rw [b2]; simp)
    have b := nat_nodup_len (List.range hs.size) (lv.map (·.2)) List.nodup_range fun k hk => onto k (List.mem_range.mp hk)
    rw [List.length_map] at a
    rw [List.length_map, List.length_range] at b
    have p3 : ps.length = hs.size := p1
    exact Nat.le_antisymm (by rw [← p3]; exact a) b
  refine ⟨tabOf t M ow, (lv.map (·.2)).toArray, ?_, ?_, ?_, rfl, rfl, rfl⟩
  · rw [relaid_eq, hw, lay, ← elv]
    rfl
  · exact perm_range hs.size (lv.map (·.2)) (by rw [List.length_map, ll]) onto
  · have pl : (tabOf t M ow).place.toList = lv.map (·.1) := by rw [← elv]; rfl
    refine ⟨by rw [pl]; exact r1, rfl, by rw [pl]; simp, hM, fun x hx => by rw [pl] at hx; exact r2 x hx, fun i h j a b => ?_⟩
    rw [pl] at b ⊢
    show ∃ k, way M h k = j ∧ _
    rw [List.getElem?_map] at b
    obtain ⟨⟨y, k⟩, hq, rfl⟩ := Option.map_eq_some_iff.mp b
    have a : ((lv.map (·.2)).map fun i => hs.getD i 0)[i]? = some h := a
    rw [List.getElem?_map, List.getElem?_map, hq] at a
    have eh : hs.getD k 0 = h := Option.some.inj a
    obtain ⟨b1, b2⟩ := (mem y k).mp (List.mem_of_getElem? hq)
    obtain ⟨g, G, c1, c2, c3⟩ := W.at_ y k b1 b2
    have eg : g = h := by
      rw [← eh, Array.getD_eq_getD_getElem?, ← Array.getElem?_toList, c1]
      rfl
    subst eg
    refine ⟨G, c2, fun c hc => ?_⟩
    obtain ⟨k2, e2⟩ := Option.ne_none_iff_exists'.mp (c3 c hc)
    exact List.mem_map.mpr ⟨(way M g c, k2), (mem _ _).mpr ⟨way_in, e2⟩, rfl⟩
/-- where a table is too full, the next one is as large as is needed -/
theorem grow {m n : Nat} (hm : GM m) (h1 : n * 5 < m * 3) (h2 : (n + 1) * 5 ≥ m * 3) (h3 : n < 4000) : ∃ M, SetTable.sizeAbove (SetTable.grown (n + 1)) - 1 = M ∧ GM M ∧ SetTable.sizeAbove (SetTable.grown (n + 1)) ≤ 8192 ∧ (n + 1) * 5 < M * 3 ∧ n + 1 ≤ m := by
  have s1 : SetTable.sizeAbove (SetTable.grown 5) = 32 ∧ SetTable.sizeAbove (SetTable.grown 19) = 128 ∧ SetTable.sizeAbove (SetTable.grown 77) = 512 ∧ SetTable.sizeAbove (SetTable.grown 307) = 2048 ∧ SetTable.sizeAbove (SetTable.grown 1229) = 8192 := by decide +kernel
  obtain ⟨a, b, c, d, e⟩ := s1
  rcases hm with rfl | rfl | rfl | rfl | rfl | rfl
  · obtain rfl : n = 4 := by omega
    exact ⟨31, by rw [a], .inr (.inl rfl), by rw [a]; decide, by decide, by decide⟩
  · obtain rfl : n = 18 := by omega
    exact ⟨127, by rw [b], .inr (.inr (.inl rfl)), by rw [b]; decide, by decide, by decide⟩
  · obtain rfl : n = 76 := by omega
    exact ⟨511, by rw [c], .inr (.inr (.inr (.inl rfl))), by rw [c]; decide, by decide, by decide⟩
  · obtain rfl : n = 306 := by omega
    exact ⟨2047, by rw [d], .inr (.inr (.inr (.inr (.inl rfl)))), by rw [d]; decide, by decide, by decide⟩
  · obtain rfl : n = 1228 := by omega
    exact ⟨8191, by rw [e], .inr (.inr (.inr (.inr (.inr rfl)))), by rw [e]; decide, by decide, by decide⟩
  · omega
/-! ## the set in the heap -/
section
variable {P : Program} {w : World} {A : Around} {E : Value → Shared → Prop} {s : Shared}
structure SG (P : Program) (w : World) (h : Heap) (c : Addr) (L : List (Addr × List Int)) (es : Array (Int × Value)) (ep : Nat) (t : SetTable) : Prop where
  ob : ∃ o, h.get? c = some o ∧ o.ExactSet ∧ o.data = .set es ep t
  rw_ : es.toList = rowsOf P w L
  tg : TG t (L.map fun p => thash P w p.2)
  nd : (L.map (·.2)).Nodup
  tu : ∀ p ∈ L, IsT P w h p.2 p.1
  pl : t.plain = true
  ld : w.params.followText "set-order" = true ∨ t.led = true
  ro : L.length * 5 < t.mask * 3
  fe : L.length < 4000
variable {c : Addr} {L : List (Addr × List Int)} {es : Array (Int × Value)} {ep : Nat} {t : SetTable}
theorem rows_len {es : Array (Int × Value)} (h : es.toList = rowsOf P w L) : es.size = L.length := by
  rw [← Array.length_toList, h]
  exact List.length_map _
theorem SG.lenE (R : SG P w s.heap c L es ep t) : es.size = L.length := rows_len R.rw_
theorem TG.fits_ {hs : List Int} (T : TG t hs) {n : Nat} (h : hs.length = n) (h2 : n ≤ t.mask) : t.fits n = true := by
  have q := T.si
  rw [Array.length_toList] at q
  unfold SetTable.fits SetTable.fill
  rw [T.du, Bool.and_eq_true, beq_iff_eq, decide_eq_true_eq]
  exact ⟨q.trans h, by show t.place.size + 0 ≤ _; omega⟩
theorem SG.fi (R : SG P w s.heap c L es ep t) : t.fits es.size = true := R.tg.fits_ (by rw [List.length_map, R.lenE]) (by have := R.ro; have := R.lenE; omega)
theorem SG.ent (R : SG P w s.heap c L es ep t) {i : Nat} {p : Addr × List Int} (h : L[i]? = some p) : es[i]? = some (thash P w p.2, Value.ref p.1) := by
  rw [← Array.getElem?_toList, R.rw_]
  unfold rowsOf
  rw [List.getElem?_map, h]
  rfl
theorem no_dummy (m : Nat) : ∀ (n : Nat) (p : SetTable.Probe), p.dummy = none → (nth m p n).dummy = none
  | 0, _, h => h
  | n + 1, p, h => no_dummy m n (adv m p) (by unfold adv; split <;> exact h)
/-- the search from a step of the way on -/
theorem find_from (R : SG P w s.heap c L es ep t) {x : Addr} {k : List Int} (hx : IsT P w s.heap k x) (hu : A.units < cLine) {h0 : Int} (eh : thash P w k = h0) {W : Nat → Nat} (eW : W = way t.mask h0) {K : Nat} (hKf : K < 10 * SetTable.turns t.mask)
    (hK : W K ∉ t.place.toList) (hKb : ∀ q, q < K → W q ∈ t.place.toList) {Q : SetFound → Shared → Prop}
    (hin : k ∈ L.map (·.2) → Q (.there none) s) (hout : k ∉ L.map (·.2) → Q (.free (W K) false) s) {pr : Nat → SetTable.Probe} (ep_ : pr = nth t.mask (runAt t.mask (SetTable.bits h0 % (t.mask + 1)) (SetTable.bits h0))) :
    ∀ (f b : Nat) (stand : Option SetTable.Probe), stand.getD (t.probeStart h0) = pr b → b ≤ K → K - b < f →
      (∀ (i : Nat) p, L[i]? = some p → p.2 = k → ∃ d, b ≤ d ∧ d < K ∧ t.place.toList[i]? = some (W d)) →
      wpAny (model P w) A (setSearchFrom c (.ref x) h0 true f stand) Q E s
  | 0, _, _, _, _, hf, _ => absurd hf (Nat.not_lt_zero _)
  | f + 1, b, stand, hst, hb, hf, hre => by
    obtain ⟨o, ho, hex, hd⟩ := R.ob
    have fi := R.fi
    have pw : ∀ q, (pr q).j = W q := fun q => by rw [ep_, eW]
    have step : ∀ q, nth t.mask (pr b) q = pr (b + q) := fun q => by rw [ep_, ← nth_add]
    have stepW : ∀ q, (nth t.mask (pr b) q).j = W (b + q) := fun q => by rw [step, pw]
    have hashOf : ∀ (i : Nat) p, L[i]? = some p → ((es[i]?.map (·.1)).getD 0) = thash P w p.2 := fun i p hp => by rw [R.ent hp]; rfl
    rw [setSearchFrom_succ]
    refine wpAny_bind (wpAny_setState_of ho hd fi ?_)
    dsimp only
    refine wp_if_neg (by unfold SetTable.gaveWay; rw [R.tg.gm.odd]; decide) ?_
    try refine wpAny_bind (wpAny_pure ?_)
    have spec := go_spec t R.tg.ri R.tg.du (fun i => (es[i]?.map (·.1)).getD 0) h0 (10 * SetTable.turns t.mask) (K - b) (pr b) (by rw [ep_]; exact no_dummy _ _ _ rfl) (by omega)
      (fun q hq => by rw [stepW]; exact hKb _ (by omega)) (by rw [stepW, show b + (K - b) = K by omega]; exact hK)
    rcases spec with ⟨q, i, hq, hi, hh, hno, hpr⟩ | ⟨hno, hpr⟩
    · have hpr' : t.probe (fun i => (es[i]?.map (·.1)).getD 0) h0 (stand.getD (t.probeStart h0)) = some (.candidate (W (b + q)) i (pr (b + (q + 1)))) := by
        rw [hst, ← stepW, ← step]
        exact hpr
      rw [hpr']
      dsimp only
      rw [stepW] at hi
      have iL : i < L.length := by
        have a := (List.getElem?_eq_some_iff.mp hi).1
        have q := R.tg.si
        rw [List.length_map] at q
        omega
      obtain ⟨p, hp⟩ : ∃ p, L[i]? = some p := ⟨_, List.getElem?_eq_getElem iL⟩
      have pin := List.mem_of_getElem? hp
      have slot := slot_live R.tg.ri hi
      have rest : wpAny (model P w) A (searchRest c (.ref x) h0 true f es t (W (b + q)) i (pr (b + (q + 1)))) Q E s := by
        unfold searchRest
        rw [R.ent hp]
        dsimp only
        refine wpAny_bind (wpAny_holding (wpAny_eqBool_tuple hu (R.tu p pin) hx ?_))
        refine wpAny_bind (wpAny_setState_of ho hd fi ?_)
        dsimp only
        by_cases same : p.2 = k
        · exact wp_if_pos (by simp [same]) (wpAny_pure (hin (List.mem_map.mpr ⟨p, pin, same⟩)))
        · refine wp_if_neg (by simp [same]) ?_
          try refine wpAny_bind (wpAny_pure ?_)
          rw [sameMem]
          dsimp only
          simp only [if_true, slot, R.ent hp]
          refine wpAny_bind (wpAny_isSame_ref_self (wpAny_bind (wpAny_pure ?_)))
          simp only [if_true]
          refine wp_if_neg (by simp [same]) ?_
          refine find_from R hx hu eh eW hKf hK hKb hin hout ep_ f (b + (q + 1)) _ rfl (by omega) (by omega) fun i1 p1 l1 k1 => ?_
          obtain ⟨d, d1, d2, d3⟩ := hre i1 p1 l1 k1
          refine ⟨d, Classical.byContradiction fun lt => ?_, d2, d3⟩
          by_cases dq : d = b + q
          · rw [dq] at d3
            have s2 := slot_live R.tg.ri d3
            rw [slot] at s2
            cases s2
            rw [hp] at l1
            cases l1
            exact same k1
          · refine hno (d - b) i1 (by omega) (by rw [stepW, show b + (d - b) = d by omega]; exact d3) ?_
            show (es[i1]?.map (·.1)).getD 0 = h0
            rw [hashOf i1 p1 l1, k1, eh]
      by_cases hl : t.led = true
      · refine wp_if_neg (by simp [hl]) ?_
        try refine wpAny_bind (wpAny_pure ?_)
        exact rest
      · refine wp_if_pos (by simp [hl]) (wpAny_bind (seen_tup hx (fun y hy => ?_) ?_))
        · obtain ⟨e, he, rfl⟩ := List.mem_map.mp hy
          have e0 : e ∈ es ∧ e.1 = h0 := by simpa using he
          have e1 : e ∈ es.toList := by simpa using e0.1
          rw [R.rw_] at e1
          obtain ⟨p2, hp2, rfl⟩ := List.mem_map.mp e1
          exact ⟨p2.2, p2.1, rfl, R.tu p2 hp2⟩
        · refine wp_if_neg (by decide) ?_
          try refine wpAny_bind (wpAny_pure ?_)
          exact rest
    · have hpr' : t.probe (fun i => (es[i]?.map (·.1)).getD 0) h0 (stand.getD (t.probeStart h0)) = some (.empty (W K) none) := by
        have : W K = (nth t.mask (pr b) (K - b)).j := by rw [stepW, show b + (K - b) = K by omega]
        rw [hst, this]
        exact hpr
      rw [hpr']
      dsimp only
      refine wpAny_pure (hout fun hm => ?_)
      obtain ⟨p1, m1, k1⟩ := List.mem_map.mp hm
      obtain ⟨i1, l1⟩ := List.mem_iff_getElem?.mp m1
      obtain ⟨d, d1, d2, d3⟩ := hre i1 p1 l1 k1
      refine hno (d - b) i1 (by omega) (by rw [stepW, show b + (d - b) = d by omega]; exact d3) ?_
      show (es[i1]?.map (·.1)).getD 0 = h0
      rw [hashOf i1 p1 l1, k1, eh]
theorem find_at (R : SG P w s.heap c L es ep t) {x : Addr} {k : List Int} (hx : IsT P w s.heap k x) (hu : A.units < cLine) {Q : SetFound → Shared → Prop} (hin : k ∈ L.map (·.2) → Q (.there none) s)
    (hout : ∀ K, k ∉ L.map (·.2) → way t.mask (thash P w k) K ∉ t.place.toList → (∀ q, q < K → way t.mask (thash P w k) q ∈ t.place.toList) → Q (.free (way t.mask (thash P w k) K) false) s) :
    wpAny (model P w) A (setSearch c (.ref x) (thash P w k) true) Q E s := by
  have ro := R.ro
  obtain ⟨K, hKf, hK, hKb⟩ := R.tg.hole (by rw [List.length_map]; omega) (thash P w k)
  have := R.tg.gm.le
  refine find_from R hx hu rfl rfl hKf hK hKb hin (fun hn => hout K hn hK hKb) rfl 100000 0 none rfl (Nat.zero_le _) (by omega) fun i p hp hk => ?_
  have hi : (L.map fun p => thash P w p.2)[i]? = some (thash P w k) := by rw [List.getElem?_map, hp, ← hk]; rfl
  have lt : i < t.place.toList.length := by
    rw [R.tg.si]
    exact (List.getElem?_eq_some_iff.mp hi).1
  obtain ⟨d, hd, e⟩ := R.tg.ahead hK hi (List.getElem?_eq_getElem lt)
  exact ⟨d, Nat.zero_le _, hd, by rw [e]; exact List.getElem?_eq_getElem lt⟩
/-- laid anew in the heap -/
theorem anew_at {o : Obj} (ho : s.heap.get? c = some o) (hex : o.ExactSet) (hd : o.data = .set es ep t) (hr : es.toList = rowsOf P w L) {hs : List Int} (T : TG t hs) (hl : hs.length = L.length) (lm : L.length ≤ t.mask)
    (nd : (L.map (·.2)).Nodup) (tu : ∀ p ∈ L, IsT P w s.heap p.2 p.1) (pl : t.plain = true) (ld : w.params.followText "set-order" = true ∨ t.led = true) (fe : L.length < 4000) {wanted M : Nat}
    (hw : SetTable.sizeAbove wanted - 1 = M) (hM : GM M) (hw2 : SetTable.sizeAbove wanted ≤ 8192) (hn : L.length * 5 < M * 3) {Q : Unit → Shared → Prop}
    (hQ : ∀ h' L' es' ep' t', Heap.SameBut c s.heap h' → SG P w h' c L' es' ep' t' → L'.Perm L → Q () { s with heap := h' }) : wpAny (model P w) A (setRelay c wanted) Q E s := by
  have el := rows_len hr
  obtain ⟨t', od, e, hp, T', em, el', epl⟩ := laid_anew t (hs := es.map (·.1)) (wanted := wanted) hw hM (by rw [Array.size_map, el]; omega)
  rw [Array.size_map, el] at hp
  obtain ⟨L2, r1, r2, r3⟩ := order_rows L es od hr hp
  rw [← r3] at T'
  have l2 : (od.filterMap (es[·]?)).size = L.length := by rw [rows_len r1, r2.length_eq]
  rw [setRelay_eq]
  refine wpAny_bind (wpAny_setState_of ho hd (T.fits_ (by rw [hl, el]) (by omega)) ?_)
  dsimp only
  refine wp_if_neg (by rw [sizeLine_eq]; omega) ?_
  try refine wpAny_bind (wpAny_pure ?_)
  rw [e]
  dsimp only
  refine wpAny_bind (wp_if_neg (by rw [l2, el]; simp) ?_)
  try refine wpAny_bind (wpAny_pure ?_)
  refine wpAny_pure ?_
  dsimp only
  refine wpAny_storeSet_of ho hd ?_ (by rw [l2, sizeLine_eq]; omega)
  have sb : Heap.SameBut c s.heap (s.heap.update c (Obj.putSet (od.filterMap (es[·]?)) t')) := Heap.SameBut.update ..
  refine hQ _ L2 _ (ep + 1) t' sb ⟨⟨_, store_at ho hd, ⟨hex.1, hex.2.1, hex.2.2⟩, rfl⟩, r1, T', (r2.map _).nodup_iff.mpr nd, fun p hp => isT_same (tu p (r2.mem_iff.mp hp)) ho hd sb, by rw [epl]; exact pl, by rw [el']; exact ld, by rw [r2.length_eq, em]; exact hn, by rw [r2.length_eq]; exact fe⟩ r2
/-- one added -/
theorem put_at (R : SG P w s.heap c L es ep t) {x : Addr} {k : List Int} (hx : IsT P w s.heap k x) (hu : A.units < cLine) (fe : L.length + 1 < 4000) {Q : Bool → Shared → Prop}
    (hQ : ∀ b h' L' es' ep' t', Heap.SameBut c s.heap h' → SG P w h' c L' es' ep' t' → (k ∈ L.map (·.2) → L' = L) → (k ∉ L.map (·.2) → L'.Perm ((x, k) :: L)) → Q b { s with heap := h' }) :
    wpAny (model P w) A (setAddHashed c (.ref x) (thash P w k)) Q E s := by
  obtain ⟨o, ho, hex, hd⟩ := R.ob
  have el := R.lenE
  have ro := R.ro
  unfold setAddHashed
  refine wpAny_holding ?_
  rw [show (100000 : Nat) = 99999 + 1 from rfl, setAddHashedIn_succ]
  refine wpAny_bind (wpAny_setState_of ho hd R.fi ?_)
  dsimp only
  refine wp_if_neg (by simp [byScan, Value.scannable]) ?_
  try refine wpAny_bind (wpAny_pure ?_)
  refine wpAny_bind (find_at R hx hu (fun hm => wpAny_pure (hQ false s.heap L es ep t (Heap.SameBut.refl c s.heap) R (fun _ => rfl) fun z => absurd hm z)) fun K hm hK hb => ?_)
  dsimp only
  refine wpAny_bind (wpAny_setState_of ho hd R.fi ?_)
  dsimp only
  obtain ⟨p, q1, q2, q3, q4⟩ := R.tg.more hK hb
  have facts : (t.put (way t.mask (thash P w k) K)).1.mask = t.mask ∧ (t.put (way t.mask (thash P w k) K)).1.led = t.led ∧ (t.put (way t.mask (thash P w k) K)).1.plain = t.plain := ⟨rfl, rfl, rfl⟩
  obtain ⟨f1, f2, f3⟩ := facts
  rw [List.length_map] at q2 q4
  generalize t.put (way t.mask (thash P w k) K) = pt at q1 q3 q4 f1 f2 f3 ⊢
  obtain ⟨t1, p1⟩ := pt
  dsimp only at q1 q3 q4 f1 f2 f3 ⊢
  subst q1
  have pl1 : t1.plain = true := by rw [f3]; exact R.pl
  first
    | refine wpAny_bind (wp_if_pos pl1 (hashBy_tup hx ?_))
    | refine wp_if_pos pl1 (wpAny_bind (hashBy_tup hx ?_))
  simp only [if_true]
  have pm := put_perm L p1 (x, k)
  have in1 : (SetTable.insertAt es p1 (thash P w k, Value.ref x)).toList = rowsOf P w (L.take p1 ++ (x, k) :: L.drop p1) := by rw [SetTable.toList_insertAt, rows_put, R.rw_]
  have hh : (L.take p1 ++ (x, k) :: L.drop p1).map (fun p => thash P w p.2) = (L.map fun p => thash P w p.2).take p1 ++ thash P w k :: (L.map fun p => thash P w p.2).drop p1 := by simp [List.map_take, List.map_drop]
  rw [← hh] at q3
  generalize SetTable.insertAt es p1 (thash P w k, Value.ref x) = es1 at in1 ⊢
  generalize L.take p1 ++ (x, k) :: L.drop p1 = L1 at pm q3 in1
  have l1 : L1.length = L.length + 1 := pm.length_eq
  have le1 : es1.size = L.length + 1 := (rows_len in1).trans l1
  have nd1 : (L1.map (·.2)).Nodup := (pm.map (·.2)).nodup_iff.mpr (List.nodup_cons.mpr ⟨hm, R.nd⟩)
  refine wpAny_bind (wpAny_storeSet_of ho hd ?_ (by rw [le1, sizeLine_eq]; omega))
  have sb : Heap.SameBut c s.heap (s.heap.update c (Obj.putSet es1 t1)) := Heap.SameBut.update ..
  have ho1 := store_at (es' := es1) (t' := t1) ho hd
  generalize s.heap.update c (Obj.putSet es1 t1) = h1 at sb ho1 ⊢
  have tu1 : ∀ p ∈ L1, IsT P w h1 p.2 p.1 := fun p hp => by
    rcases List.mem_cons.mp (pm.mem_iff.mp hp) with rfl | hp
    · exact isT_same hx ho hd sb
    · exact isT_same (R.tu p hp) ho hd sb
  have ld1 : w.params.followText "set-order" = true ∨ t1.led = true := by rw [f2]; exact R.ld
  have full : t1.tooFull = decide ((L.length + 1) * 5 ≥ t.mask * 3) := by unfold SetTable.tooFull; rw [q4, f1]
  by_cases hf : (L.length + 1) * 5 ≥ t.mask * 3
  · rw [decide_eq_true hf] at full
    first
      | refine wpAny_bind (wp_if_pos (by simp [full]) ?_)
      | (refine wp_if_pos (by simp [full]) ?_; refine wpAny_bind ?_)
    rw [el]
    obtain ⟨M, g1, g2, g3, g4, g5⟩ := grow R.tg.gm ro hf (by omega)
    refine anew_at (s := { s with heap := h1 }) ho1 ⟨hex.1, hex.2.1, hex.2.2⟩ rfl in1 q3 (List.length_map _) (by rw [l1, f1]; exact g5) nd1 tu1 pl1 ld1 (by rw [l1]; exact fe) g1 g2 g3 (by rw [l1]; exact g4) fun h2 L2 es2 ep2 t2 sb2 R2 pm2 => ?_
    exact wpAny_pure (hQ true h2 L2 es2 ep2 t2 (sb.trans sb2) R2 (fun z => absurd z hm) fun _ => pm2.trans pm)
  · rw [decide_eq_false hf] at full
    first
      | refine wp_if_neg (by simp [full]) ?_
      | (refine wpAny_bind (wp_if_neg (by simp [full]) (wpAny_pure ?_)))
    exact wpAny_pure (hQ true h1 L1 es1 (ep + 1) t1 sb ⟨⟨_, ho1, ⟨hex.1, hex.2.1, hex.2.2⟩, rfl⟩, in1, q3, nd1, tu1, pl1, ld1, by rw [l1, f1]; omega, by rw [l1]; exact fe⟩ (fun z => absurd z hm) fun _ => pm)
/-! ## set(xs) -/
/-- a set as it is made -/
def ob0 (w : World) : Obj := { cls := .type "set", dict := none, data := .set #[] 0 (.fresh 0 0 (!w.params.followText "set-order")) }
theorem SG.keep {h h' : Heap} (R : SG P w h c L es ep t) (ha : ∀ o, h.get? c = some o → h'.get? c = some o) (ht : ∀ p ∈ L, IsT P w h' p.2 p.1) : SG P w h' c L es ep t := by
  obtain ⟨o, ho, r⟩ := R.ob
  exact { R with ob := ⟨o, ha o ho, r⟩, tu := ht }
theorem sg0 {h : Heap} (ho : h.get? c = some (ob0 w)) : SG P w h c [] #[] 0 (.fresh 0 0 (!w.params.followText "set-order")) where
  ob := ⟨_, ho, ⟨rfl, rfl, rfl⟩, rfl⟩
  rw_ := rfl
  tg := ⟨List.Pairwise.nil, rfl, rfl, .inl rfl, fun x hx => (by cases hx), fun i h j hi => (by simp at hi)⟩
  nd := List.nodup_nil
  tu := fun p hp => (by cases hp)
  pl := rfl
  ld := by
    show _ ∨ (!w.params.followText "set-order") = true
    cases w.params.followText "set-order" <;> simp
  ro := by show 0 * 5 < 7 * 3; decide
  fe := by show 0 < 4000; decide
theorem upd_loop {I : Addr} {fp wr : List Addr} {G : Array GenState → Array GenState → Prop} {n : Nat} {Pv : Nat → Value → Prop} {St : Nat → Shared → Prop} {R : Result → Shared → Prop}
    (W : WalksS P w A.in1 I fp wr G n Pv St) (S : Addr) (hSf : S ∉ fp) (ks : List (Addr × List Int)) (hn : n = ks.length) (fe : ks.length < 4000) (hval : ∀ i v, Pv i v → ∃ p, ks[i]? = some p ∧ v = .ref p.1)
    (h0 : Heap) (hk : ∀ p ∈ ks, IsT P w h0 p.2 p.1) (hS0 : h0.get? S = none) (hw0 : ∀ b ∈ wr, h0.get? b = none) (hu : A.in1.units < cLine) :
    ∀ (k i : Nat) (s : Shared), n - i = k → i ≤ n → St i s → (∀ b o, h0.get? b = some o → s.heap.get? b = some o) → (∃ L es ep t, SG P w s.heap S L es ep t ∧ Got ks i L) →
      (∀ s' L es ep t, Moved (S :: wr) G s s' → SG P w s'.heap S L es ep t → Got ks n L → (∀ b o, h0.get? b = some o → s'.heap.get? b = some o) → R (.ok (.ret .none)) s') →
      codeAny (model P w) A (.builtin "set.update.loop" ⟨[.ref S, .ref I], []⟩) R s := by
  have Sw : S ∉ wr := fun h => hSf (W.sub _ h)
  have sub : ∀ b ∈ wr, b ∈ S :: wr := fun b hb => List.mem_cons_of_mem _ hb
  have still : ∀ {s s' : Shared}, Moved wr G s s' → (∀ b o, h0.get? b = some o → s.heap.get? b = some o) → ∀ b o, h0.get? b = some o → s'.heap.get? b = some o := fun m k b o e => m.heap b o (fun z => by rw [hw0 b z] at e; cases e) (k b o e)
  intro k
  induction k with
  | zero =>
    intro i s hk' hi hst hkp ⟨L, es, ep, t, hS, g⟩ hR
    obtain rfl : i = n := by omega
    refine codeAny_builtin F.entry_set_update_loop ?_
    rw [Around.under_plainId F.plain_set_update_loop _]
    show wpAny _ A.in1 (pyNext (.ref I) >>= _) _ _ s
    refine wpAny_bind (W.done s _ _ hst fun s' hm => ?_)
    have hkp' := still hm hkp
    have R' := hS.keep (h' := s'.heap) (fun o e => hm.heap S o Sw e) fun p hp => isT_keep (hk p (List.mem_of_mem_take (g.sub p hp))) hkp'
    exact wpAny_pure (hR s' L es ep t (hm.mono sub) R' g hkp')
  | succ k ih =>
    intro i s hk' hi hst hkp ⟨L, es, ep, t, hS, g⟩ hR
    refine codeAny_builtin F.entry_set_update_loop ?_
    rw [Around.under_plainId F.plain_set_update_loop _]
    show wpAny _ A.in1 (pyNext (.ref I) >>= _) _ _ s
    refine wpAny_bind (W.item i s _ _ (by omega) hst fun v s' hP hst' hm => ?_)
    obtain ⟨p, hp, rfl⟩ := hval i v hP
    have hkp' := still hm hkp
    have R' := hS.keep (h' := s'.heap) (fun o e => hm.heap S o Sw e) fun q hq => isT_keep (hk q (List.mem_of_mem_take (g.sub q hq))) hkp'
    have hx : IsT P w s'.heap p.2 p.1 := isT_keep (hk p (List.mem_of_getElem? hp)) hkp'
    show wpAny _ A.in1 (holding [Value.ref p.1] (setAdd S (.ref p.1)) >>= _) _ _ s'
    refine wpAny_bind (wpAny_holding ?_)
    unfold setAdd
    refine wpAny_holding (wpAny_bind (wpAny_pyHash_tuple hu hx ?_))
    refine put_at (s := { s' with toks := s'.toks + (p.2.length + 1) }) R' hx hu (by have := g.len; omega) fun b h' L' es' ep' t' sb R2 c1 c2 => ?_
    have g' : Got ks (i + 1) L' := by
      by_cases c : p.2 ∈ L.map (·.2)
      · rw [c1 c]; exact g.same hp c
      · exact g.more hp (c2 c)
    have hkp2 : ∀ b o, h0.get? b = some o → h'.get? b = some o := fun b o e => (sb.2 b (fun z => by rw [z, hS0] at e; cases e)).trans (hkp' b o e)
    refine wpAny_pure ⟨plainId_quiet F.plain_set_update_loop _, ih (i + 1) _ (by omega) (by omega) (W.frame _ s' _ _ hst' (Nat.le_add_right _ _) fun b hb o e => ?_) hkp2 ⟨L', es', ep', t', R2, g'⟩ fun s2 L2 es2 ep2 t2 m2 R3 g2 k2 => ?_⟩
    · rw [sb.2 b fun z => hSf (z ▸ hb)]; exact e
    · refine hR s2 L2 es2 ep2 t2 (Moved.trans W.gtrans ((hm.mono sub).then_heap (Nat.le_add_right _ _) fun b o hb e => ?_) m2) R3 g2 k2
      rw [sb.2 b fun z => hb (by rw [z]; simp)]; exact e
theorem call_set {l : Addr} {items : Array Value} (ks : List (Addr × List Int)) {Q : Value → Shared → Prop} (hh : A.handled = none) (hl : s.heap.IsList l items) (hit : items.toList = ks.map fun p => Value.ref p.1)
    (hk : ∀ p ∈ ks, IsT P w s.heap p.2 p.1) (fe : ks.length < 4000) (hu : A.units + 3 < cLine)
    (h : ∀ (h' : Heap) (tk : Nat) L es ep t, SG P w h' s.heap.objs.size L es ep t → Got ks ks.length L → (∀ b o, s.heap.get? b = some o → h'.get? b = some o) → Q (.ref s.heap.objs.size) { s with heap := h', toks := tk }) :
    wpAny (model P w) A (call (.type "set") [.ref l]) Q E s := by
  have isz : items.size = ks.length := by rw [← Array.length_toList, hit, List.length_map]
  obtain ⟨_, tl, hmro⟩ := F.called_set.mro
  have hmade := F.called_set.made
  have hsub := F.called_set.sub
  refine wpAny_call (codeAny_of_tree ?_)
  show wpAny _ _ (callAny (.type "set") _) _ _ _
  refine wpAny_pure ⟨Code.quiet_builtin _ (by decide +kernel), codeAny_builtin F.entry_type_call ?_⟩
  rw [Around.under_plain (weight_type_call_type "set" [.ref l] []) rfl]
  have h1 := F.called_set.notType
  have h2 := F.called_set.canCreate
  have hct := F.typeCall_set_1 (.ref l)
  repeat (any_goals (first | assumption | wp_step))
  refine codeAny_mono (code_set_led1 (.ref l) (E := E) (Q₁ := fun obj s₁ => obj = .ref s.heap.objs.size ∧ s₁ = { s with heap := s.heap.push (ob0 w) }) ⟨rfl, rfl⟩) fun r s₁ hr => ?_
  cases r with
  | error e => exact hr
  | ok fl =>
    cases fl with
    | ret obj =>
      obtain ⟨rfl, rfl⟩ := hr
      have hS : (s.heap.push (ob0 w)).get? s.heap.objs.size = some (ob0 w) := Heap.get?_push_size _ rfl
      have hT : Shared.TypeIs { s with heap := s.heap.push (ob0 w) } (.ref s.heap.objs.size) "set" := ⟨_, hS, rfl⟩
      have hli := F.called_set.init.lookup
      have hbi := F.called_set.init.bind (.ref s.heap.objs.size)
      repeat (any_goals (first | assumption | wp_step))
      refine codeAny_mono (codeAny_call_builtin (R := wants (fun r s₂ => r = .none ∧ ∃ h' tk L es ep t, s₂ = { s with heap := h', toks := tk } ∧ SG P w h' s.heap.objs.size L es ep t ∧ Got ks ks.length L ∧
          (∀ b o, s.heap.get? b = some o → h'.get? b = some o)) E) F.called_set.init.plain F.entry_set_init (check_set_init_1 hT ?_)) fun r₂ s₂ hr₂ => ?_
      · obtain ⟨ol, hol, hcl, nl, hdl⟩ := hl
        obtain ⟨ocls, odict, odata, oslots⟩ := ol
        simp only at hcl hdl
        subst hcl hdl
        have hol' : (s.heap.push (ob0 w)).get? l = some { cls := .type "list", dict := odict, data := .seq items nl, slots := oslots } := Heap.get?_push_of_some _ hol
        have hsls := F.sub_list_set
        have hslf := F.sub_list_frozenset
        have hne : (Value.type "list" == Value.type "dict") = false := by decide
        have hl1 : (s.heap.push (ob0 w)).IsList l items := ⟨_, hol', rfl, nl, rfl⟩
        unfold Builtin.«set.__init__» noKeywords Builtin.Frozenset.updateFrom
        generalize hPI : pyIter = PI
        wp_walk
        subst hPI
        refine wpAny_pyIter_list hl1 (wpAny_bind (wpAny_runValue ?_))
        have lS : l < s.heap.objs.size := Heap.lt_size hol
        have zS : (s.heap.push (ob0 w)).objs.size = s.heap.objs.size + 1 := Heap.size_push _ _
        have none_of : ∀ b, s.heap.objs.size ≤ b → s.heap.get? b = none := fun b hb => by
          cases q : s.heap.get? b with
          | none => rfl
          | some o => exact absurd (Nat.lt_of_lt_of_le (Heap.lt_size q) hb) (Nat.lt_irrefl _)
        refine upd_loop ((Walks.list (show A.in1.in1.in1.handled = none by simp [hh]) (s.heap.push (ob0 w)).objs.size l (by rw [zS]; exact Nat.ne_of_lt (Nat.lt_succ_of_lt lS)) items).toS) s.heap.objs.size (by
          rw [zS]
          simp only [List.mem_cons, List.not_mem_nil, or_false, not_or]
          exact ⟨Nat.ne_of_lt (Nat.lt_succ_self _), Nat.ne_of_gt lS⟩) ks isz fe (fun i v hv => ?_) s.heap hk (none_of _ (Nat.le_refl _))
          (fun b hb => none_of b (by rw [List.mem_singleton.mp hb, zS]; exact Nat.le_succ _)) hu (items.size - 0) 0 _ (by omega) (Nat.zero_le _) ⟨⟨_, Heap.get?_push_size _ rfl, rfl, rfl⟩, hl1.push _⟩ (fun b o e => Heap.get?_push_of_some _ (Heap.get?_push_of_some _ e)) ?_ ?_
        · have q : items.toList[i]? = some v := by rw [Array.getElem?_toList]; exact hv
          rw [hit, List.getElem?_map] at q
          obtain ⟨p, hp, e⟩ := Option.map_eq_some_iff.mp q
          exact ⟨p, hp, e.symm⟩
        · exact ⟨[], #[], 0, _, sg0 (Heap.get?_push_of_some _ hS), Got.zero ks⟩
        · intro s' L es ep t hm R' g' hkp
          obtain ⟨h', g2, d', tk', os'⟩ := s'
          obtain rfl : g2 = s.gens := hm.gens
          obtain rfl : d' = s.drawn := hm.drawn
          obtain rfl : os' = s.os := hm.os
          rw [isz] at g'
          show wpAny _ _ _ _ _ _
          refine wpAny_pure ?_
          show wpAny _ _ (ret Value.none) _ _ _
          exact wpAny_pure ⟨rfl, h', tk', L, es, ep, t, rfl, R', g', hkp⟩
      · cases r₂ with
        | error e => exact hr₂
        | ok fl₂ =>
          cases fl₂ with
          | ret r =>
            obtain ⟨rfl, h', tk, L, es, ep, t, rfl, R', g', hk'⟩ := hr₂
            repeat (any_goals (first | assumption | wp_step))
            exact h _ _ _ _ _ _ R' g' hk'
          | _ => exact hr₂.elim
    | _ => exact hr.elim
end
end Zb

/-! # len(set(xs)), sorted(set(xs)), xs a list of up to some four thousand tuples of ints -/
namespace Zb
open PySem PySem.Spec PyProof.Rows L2 Z
section
variable {P : Program} {w : World} {A : Around} {E : Value → Shared → Prop} {s : Shared} {c : Addr} {L : List (Addr × List Int)} {es : Array (Int × Value)} {ep : Nat} {t : SetTable}
theorem sort_set (R : SG P w s.heap c L es ep t) (hh : A.handled = none) {d : Nat} (h1 : 1 ≤ d) (hd : ∀ p ∈ L, p.2.length = d) {Q : Value → Shared → Prop}
    (hQ : ∀ s' p (out : List Value) (n : Nat), (∀ b o, s.heap.get? b = some o → s'.heap.get? b = some o) → s'.gens = s.gens → s'.os = s.os → s.heap.objs.size ≤ p → s'.heap.get? p = some (seqObj "list" out.toArray n) → out.Perm (L.map fun q => Value.ref q.1) →
      out.Pairwise (fun u v => lexL (TS.intsOf s.heap v) (TS.intsOf s.heap u) = false) → Q (.ref p) s') : wpAny (model P w) A (call (.builtin "sorted") [.ref c]) Q E s := by
  obtain ⟨o, ho, hex, hdt⟩ := R.ob
  have el := R.lenE
  have fe := R.fe
  refine Calls.call_function_entry kind_sorted plain_sorted entry_sorted (args_sorted1 _) ?_
  unfold Builtin.«sorted»
  refine wpAny_bind (m := checkCount "sorted" 1 1 _) (wpAny_pure ?_)
  refine wpAny_bind (collect_set (A := A.in1) hh ⟨o, ho, hex.1, hdt⟩ R.fi (by unfold scanBound; omega) R.tg.ri R.ld fun s1 vs k1 hz g1 o1 pm => ?_)
  have er : es.toList.map (·.2) = L.map fun q => Value.ref q.1 := by
    rw [R.rw_]
    unfold rowsOf
    rw [List.map_map]
    rfl
  rw [er] at pm
  have vl : vs.length < 4000 := by rw [pm.length_eq, List.length_map]; exact fe
  have raw : ∀ v ∈ vs, TS.TupInts s.heap v (TS.intsOf s.heap v) ∧ (TS.intsOf s.heap v).length = d := fun v hv => by
    obtain ⟨p, hp, rfl⟩ := List.mem_map.mp (pm.mem_iff.mp hv)
    have q := tupInts_of (P := P) (w := w) (R.tu p hp)
    rw [q.ints]
    exact ⟨q, hd p hp⟩
  refine wpAny_bind (wpAny_newList ?_ (by rw [sizeLine_eq]; omega))
  have hoL : (s1.heap.push (seqObj "list" vs.toArray 0)).get? s1.heap.objs.size = some (seqObj "list" vs.toArray 0) := Heap.get?_push_size _ rfl
  have keep : ∀ b o, s.heap.get? b = some o → (s1.heap.push (seqObj "list" vs.toArray 0)).get? b = some o := fun b o e => Heap.get?_push_of_some _ (k1 b o e)
  refine wpAny_bind (wpAny_holding (wpAny_call_entry slot_list_sort ⟨_, hoL, rfl⟩ entry_list_sort (SrtO.list_sort_ord (s := { s1 with heap := s1.heap.push (seqObj "list" vs.toArray 0) }) (ltv := fun v u => lexL (TS.intsOf s.heap v) (TS.intsOf s.heap u)) (swoL _) hoL (by rw [sizeLine_eq]; omega) (fun h2 => ?_) fun out a1 a2 => ⟨_, rfl, ?_⟩) (args_list_sort _)))
  · refine tups_sortable (k := TS.intsOf s.heap) h1 (by omega) (fun v hm => ⟨(raw v hm).1.keeps fun c o e _ => keep c o e, (raw v hm).2⟩) fun o e => ?_
    have e' := e.symm.trans hoL
    cases e'
    exact fun c => absurd (Value.type.inj c) (by decide)
  · obtain ⟨n, hn⟩ := PyProof.Rows.sortedHeap_at (out := out.toArray) hoL
    refine wpAny_pure ⟨_, rfl, hQ _ s1.heap.objs.size out n (fun b u e => ?_) g1 o1 hz hn (a2.perm.trans pm) a1⟩
    have lt := Heap.lt_size (k1 b u e)
    show (sortedHeap (s1.heap.push (seqObj "list" vs.toArray 0)) s1.heap.objs.size vs out.toArray).get? b = some u
    rw [sortedHeap_old (Nat.ne_of_lt lt) (by rw [size_push']; exact Nat.lt_succ_of_lt lt)]
    exact keep b u e
end
/-- each key once -/
def SetIs (ks L : List (Addr × List Int)) : Prop := (∀ q ∈ L, q ∈ ks) ∧ (∀ q ∈ ks, q.2 ∈ L.map (·.2)) ∧ (L.map (·.2)).Nodup
def LenSetK (K : PySem.W.Frag) (Q : VK) (x : V) (H : Hp) : Prop := ∃ (l : Addr) (ks : List (Addr × List Int)), x = V.ref l ∧ SqL K H l (ks.map fun p => V.ref p.1) ∧ (∀ p ∈ ks, SqT K H p.1 (p.2.map V.int)) ∧ ks.length < 4000 ∧ ∀ L, SetIs ks L → Q (.int (L.length : Nat)) H
def tLenSetB (K : PySem.W.Frag) (ta : TE) : TE := fun σ H Q => ta σ H fun x H1 => LenSetK K Q x H1
def SrtSetK (K : PySem.W.Frag) (Q : VK) (x : V) (H : Hp) : Prop := ∃ (l : Addr) (ks : List (Addr × List Int)) (d : Nat), x = V.ref l ∧ SqL K H l (ks.map fun p => V.ref p.1) ∧ (∀ p ∈ ks, SqT K H p.1 (p.2.map V.int)) ∧ ks.length < 4000 ∧ 1 ≤ d ∧ (∀ p ∈ ks, p.2.length = d) ∧
  ∀ L p, SetIs ks L → L.Pairwise (fun x y => lexL y.2 x.2 = false) → H p = none → Q (.ref p) (upd H p (.lst (L.map fun q => V.ref q.1)))
def tSrtSetB (K : PySem.W.Frag) (ta : TE) : TE := fun σ H Q => ta σ H fun x H1 => SrtSetK K Q x H1
theorem got_is {ks L : List (Addr × List Int)} (g : Got ks ks.length L) (nd : (L.map (·.2)).Nodup) : SetIs ks L := ⟨fun q hq => List.mem_of_mem_take (g.sub q hq), fun q hq => g.all q (by rw [List.take_length]; exact hq), nd⟩
section
variable {X : Cx} {a : Expr} {ta : TE} {p p2 q pos : Pos}
theorem pe_lenSetB (hc : X.calm = true) (hu : X.A.units + 65 < cLine) (hg : Gl X "len") (hm : X.mg "len" = none) (hg2 : Gl X "set") (hm2 : X.mg "set" = none) (ha : PE X a ta)
    (na : starEach [a] X.env = (false, eval a X.env) :: starEach [] X.env := by rfl) : PE X (.Call (.Name "len" p) [.Call (.Name "set" p2) [a] [] q] [] pos) (tLenSetB X.K ta) := by
  refine ⟨fun pins s σ H Q I h => ?_⟩
  refine Call_ (ld_blt I hg hm PySem.boot_len ?_)
  refine PyProof.Rows.callWith_builtin1 (PyProof.Rows.args_cons ?_ rfl) rfl rfl
  refine Call_ (ld_blt I hg2 hm2 PyProof.Rows.boot_set ?_)
  refine PyProof.Rows.callWith_type1 (PyProof.Rows.args_cons (thn (ha.run pins s σ H _ I h) fun v s1 ⟨x, H1, I1, r1, q1⟩ => PyProof.Rows.args_nil ?_) na) na rfl
  obtain ⟨l, ks, rfl, hq, hk, fe, q1⟩ := q1
  cases r1
  obtain ⟨its, r, pl, hz⟩ := I1.list hq
  refine call_set (P := X.prog) (w := X.w) ks (I1.ok.hd hc) pl.isList (by simpa using refs_of_vals r) (fun p hp => I1.isT (hk p hp)) fe (by omega) fun h' tk L es ep t R g hk' => PyProof.Rows.args_nil ?_
  obtain ⟨o, ho, hex, hdt⟩ := R.ob
  have I2 : Inv X pins σ H1 { s1 with heap := h', toks := tk } := I1.kept fun b o e => hk' b o e
  have el := SG.lenE (s := { s1 with heap := h', toks := tk }) R
  have f2 := R.fe
  refine call_len_set ho hex hdt (SG.fi (s := { s1 with heap := h', toks := tk }) R) (by rw [el]; omega) ⟨.int (L.length : Nat), H1, I2.tok _, ⟨_, by rw [el]⟩, q1 L (got_is g R.nd)⟩
theorem pe_srtSetB (hc : X.calm = true) (hu : X.A.units + 65 < cLine) (hg : Gl X "sorted") (hm : X.mg "sorted" = none) (hg2 : Gl X "set") (hm2 : X.mg "set" = none) (ha : PE X a ta)
    (na : starEach [a] X.env = (false, eval a X.env) :: starEach [] X.env := by rfl) : PE X (.Call (.Name "sorted" p) [.Call (.Name "set" p2) [a] [] q] [] pos) (tSrtSetB X.K ta) := by
  refine ⟨fun pins s σ H Q I h => ?_⟩
  refine Call_ (ld_blt I hg hm (u := .builtin "sorted") (by first | rfl | decide +kernel) ?_)
  refine PyProof.Rows.callWith_builtin1 (PyProof.Rows.args_cons ?_ rfl) rfl rfl
  refine Call_ (ld_blt I hg2 hm2 PyProof.Rows.boot_set ?_)
  refine PyProof.Rows.callWith_type1 (PyProof.Rows.args_cons (thn (ha.run pins s σ H _ I h) fun v s1 ⟨x, H1, I1, r1, q1⟩ => PyProof.Rows.args_nil ?_) na) na rfl
  obtain ⟨l, ks, d, rfl, hq, hk, fe, h1, hd, q1⟩ := q1
  cases r1
  obtain ⟨its, r, pl, hz⟩ := I1.list hq
  refine call_set (P := X.prog) (w := X.w) ks (I1.ok.hd hc) pl.isList (by simpa using refs_of_vals r) (fun p hp => I1.isT (hk p hp)) fe (by omega) fun h' tk L es ep t R g hk' => PyProof.Rows.args_nil ?_
  have gi := got_is g R.nd
  have I2 : Inv X pins σ H1 { s1 with heap := h', toks := tk } := I1.kept fun b o e => hk' b o e
  have R2 : SG X.prog X.w ({ s1 with heap := h', toks := tk } : Shared).heap s1.heap.objs.size L es ep t := R
  generalize ({ s1 with heap := h', toks := tk } : Shared) = s2 at I2 R2 ⊢
  refine sort_set (s := s2) R2 (I1.ok.hd hc) h1 (fun p hp => hd p (gi.1 p hp)) fun s' pn out n kp eg eo hp hget pm pw => ?_
  -- the rows in the order of the values
  have ord : ∀ vs : List Value, (∀ v ∈ vs, ∃ q ∈ L, v = Value.ref q.1) → ∃ L1 : List (Addr × List Int), vs = L1.map (fun q => Value.ref q.1) ∧ ∀ q ∈ L1, q ∈ L := fun vs => by
    induction vs with
    | nil => exact fun _ => ⟨[], rfl, fun q hq => by cases hq⟩
    | cons v vs ih =>
      intro hv
      obtain ⟨q, hq, rfl⟩ := hv v List.mem_cons_self
      obtain ⟨L1, rfl, hs⟩ := ih fun u hu => hv u (List.mem_cons_of_mem _ hu)
      exact ⟨q :: L1, rfl, fun r hr => by rcases List.mem_cons.mp hr with rfl | hr; exact hq; exact hs r hr⟩
  have one : ∀ q ∈ L, ∀ r ∈ L, q.1 = r.1 → q = r := fun q hq r hr e => by
    have a1 := R2.tu q hq
    rw [e] at a1
    exact Prod.ext e (a1.inj (R2.tu r hr))
  have nL : L.Nodup := nodup_of_map R2.nd
  obtain ⟨L', eL, hs⟩ := ord out fun v hv => by
    obtain ⟨q, hq, e⟩ := List.mem_map.mp (pm.mem_iff.mp hv)
    exact ⟨q, hq, e.symm⟩
  have nref : (L.map fun q => Value.ref q.1).Nodup := List.pairwise_map.mpr (nL.imp_of_mem fun {q r} hq hr ne e => by
    injection e with e
    exact ne (one q hq r hr e))
  have nL' : L'.Nodup := nodup_of_map (by rw [← eL]; exact pm.nodup_iff.mpr nref)
  have pL : L'.Perm L := (List.perm_ext_iff_of_nodup nL' nL).mpr fun q => ⟨hs q, fun hq => by
    have hm : Value.ref q.1 ∈ L'.map fun q => Value.ref q.1 := by rw [← eL]; exact pm.mem_iff.mpr (List.mem_map.mpr ⟨q, hq, rfl⟩)
    obtain ⟨r, hr, e⟩ := List.mem_map.mp hm
    injection e with e
    rw [← one r (hs r hr) q hq e]
    exact hr⟩
  have gi' : SetIs ks L' := ⟨fun q hq => gi.1 q (hs q hq), fun q hq => (pL.map (·.2)).mem_iff.mpr (gi.2.1 q hq), (pL.map (·.2)).nodup_iff.mpr gi.2.2⟩
  have pw' : L'.Pairwise (fun x y => lexL y.2 x.2 = false) := by
    rw [eL] at pw
    refine List.Pairwise.imp_of_mem (fun {q r} hq hr h => ?_) (List.pairwise_map.mp pw)
    have f1 : TS.intsOf s2.heap (.ref q.1) = q.2 := (tupInts_of (P := X.prog) (w := X.w) (R2.tu q (hs q hq))).ints
    have f2 : TS.intsOf s2.heap (.ref r.1) = r.2 := (tupInts_of (P := X.prog) (w := X.w) (R2.tu r (hs r hr))).ints
    rw [← f1, ← f2]
    exact h
  have ll : L'.length < 4000 := by rw [pL.length_eq]; exact R2.fe
  have hn : H1 pn = none := I2.hok.fresh hp
  have hv : Vals (L'.map fun q => V.ref q.1) out := by rw [eL]; exact vals_of_refs L'
  have J : Inv X pins σ (upd H1 pn (.lst (L'.map fun q => V.ref q.1))) { s2 with heap := s'.heap, gens := s'.gens, drawn := s'.drawn, toks := s'.toks } :=
    I2.call (ch := []) (Un.laid kp hp hn) (I2.hok.laid kp hp ⟨by rw [List.length_map, sizeLine_eq]; omega, out, n, hv, hget⟩) (by rw [eg]; exact I2.bare) (fun _ z => nomatch z)
  have e : s' = { s2 with heap := s'.heap, gens := s'.gens, drawn := s'.drawn, toks := s'.toks } := by
    cases s'
    cases s2
    cases eo
    rfl
  rw [e]
  exact ⟨.ref pn, _, J, rfl, q1 L' pn gi' pw' hn⟩
end
end Zb
namespace Z
open PySem PySem.Spec PyProof.Rows L2 Zb
section
variable {α : Type} [Py α] [Ktup α] {K : PySem.W.Frag} {H Ho : Hp} {R : Grp} {v : V} {Q : VK} {σ : L2.St} {te : TE}
/-- each one once -/
def ddK : List α → List α
  | [] => []
  | x :: l => if Ktup.key x ∈ l.map Ktup.key then ddK l else x :: ddK l
theorem ddK_mem {x : α} : ∀ {l : List α}, x ∈ ddK l ↔ x ∈ l
  | [] => Iff.rfl
  | y :: l => by
    unfold ddK
    split
    · rename_i h
      rw [ddK_mem, List.mem_cons]
      refine ⟨.inr, fun z => z.elim (fun e => ?_) id⟩
      obtain ⟨u, hu, eu⟩ := List.mem_map.mp h
      rw [e, ← Ktup.inj u y eu]
      exact hu
    · rw [List.mem_cons, List.mem_cons, ddK_mem]
theorem ddK_nd : ∀ l : List α, (ddK l).Nodup
  | [] => List.nodup_nil
  | y :: l => by
    unfold ddK
    split
    · exact ddK_nd l
    · rename_i h
      exact List.nodup_cons.mpr ⟨fun z => h (List.mem_map.mpr ⟨y, ddK_mem.mp z, rfl⟩), ddK_nd l⟩
theorem key_nd {l : List α} (h : l.Nodup) : (l.map Ktup.key).Nodup := List.pairwise_map.mpr (List.Pairwise.imp (fun ne e => ne (Ktup.inj _ _ e)) h)
theorem set_keys {xs : List α} {ks L : List (Addr × List Int)} (s : SetL Ho ks xs) (h : SetIs ks L) : (L.map (·.2)).Perm ((ddK xs).map Ktup.key) := by
  refine (List.perm_ext_iff_of_nodup h.2.2 (key_nd (ddK_nd xs))).mpr fun k => ⟨fun hk => ?_, fun hk => ?_⟩
  · obtain ⟨p, hp, rfl⟩ := List.mem_map.mp hk
    obtain ⟨x, hx, e, _⟩ := s.1 p (h.1 p hp)
    exact List.mem_map.mpr ⟨x, ddK_mem.mpr hx, e.symm⟩
  · obtain ⟨x, hx, rfl⟩ := List.mem_map.mp hk
    obtain ⟨p, hp, e⟩ := s.2 x (ddK_mem.mp hx)
    rw [← e]
    exact h.2.1 p hp
theorem set_sqt {xs : List α} {ks : List (Addr × List Int)} (z : Zs R H Ho) (s : SetL Ho ks xs) : ∀ p ∈ ks, SqT K H p.1 (p.2.map V.int) := fun p hp => by
  obtain ⟨x, _, e, ht⟩ := s.1 p hp
  rw [e]
  exact SqT.of (z.le _ _ ht)
theorem k_lenSet (k : te σ H fun x H1 => LenSetK K Q x H1) : tLenSetB K te σ H Q := k
theorem y_lenSet {xs : List α} (d : LV K R Ho v xs) (z : Zs R H Ho) (hl : xs.length < 4000) (k : Q (.int ((ddK xs).length : Int)) H) : LenSetK K Q v H := by
  obtain ⟨p, vs, rfl, d, s⟩ := LV.rd d z
  obtain ⟨ks, rfl, sl, hk⟩ := dl_ks d
  refine ⟨p, ks, rfl, s, set_sqt z sl, by omega, fun L h => ?_⟩
  have := (set_keys sl h).length_eq
  rw [List.length_map, List.length_map] at this
  rw [this]
  exact k
theorem k_srtSet (k : te σ H fun x H1 => SrtSetK K Q x H1) : tSrtSetB K te σ H Q := k
theorem y_srtSet {xs : List α} (d : LV K R Ho v xs) (z : Zs R H Ho) (hl : xs.length < 4000) (k : ∀ H' p ws, Zs ((p, .lst ws) :: R) H' Ho → DL K Ho ws (srtK (ddK xs)) → Q (.ref p) H') : SrtSetK K Q v H := by
  obtain ⟨p, vs, rfl, d, s⟩ := LV.rd d z
  obtain ⟨ks, rfl, sl, hk⟩ := dl_ks d
  refine ⟨p, ks, Ktup.d α, rfl, s, set_sqt z sl, by omega, Ktup.pos, fun q hq => ?_, fun L pn h pw hn => ?_⟩
  · obtain ⟨x, _, e, _⟩ := sl.1 q hq
    rw [e, Ktup.len]
  · obtain ⟨ys, e1, e2, e3⟩ := ks_dl (K := K) (Ho := Ho) (xs := xs) (L := L) fun q hq => sl.1 q (h.1 q hq)
    have ny : ys.Nodup := nodup_of_map (f := Ktup.key) (by rw [e1]; exact h.2.2)
    have py : ys.Perm (ddK xs) := (List.perm_ext_iff_of_nodup ny (ddK_nd xs)).mpr fun y => ⟨fun hy => ddK_mem.mpr (e3 y hy), fun hy => by
      have : Ktup.key y ∈ ys.map Ktup.key := by
        rw [e1]
        exact (set_keys sl h).mem_iff.mpr (List.mem_map.mpr ⟨y, hy, rfl⟩)
      obtain ⟨y', hy', e⟩ := List.mem_map.mp this
      rw [← Ktup.inj y' y e]
      exact hy'⟩
    have pwy : ys.Pairwise (fun x y => leK x y = true) := by
      have h1 : (ys.map Ktup.key).Pairwise (fun x y => lexL y x = false) := by
        rw [e1]
        exact List.pairwise_map.mpr pw
      refine List.Pairwise.imp (fun h => ?_) (List.pairwise_map.mp h1)
      unfold leK
      rw [h]
      rfl
    have e := srtK_of py pwy
    rw [e] at e2
    exact k _ pn _ (z.root hn) e2
end
end Z

/-! # dicts with tuple keys and ints for values, compared -/
namespace Z
open PySem PySem.Spec PySem.Calls PyProof.Rows L2
section
variable {prog : Program} {w : World} {K : Type} [DecidableEq K] {knd : HeapKind prog w K} {A : Around} {E : Value → Shared → Prop} {s : Shared}
inductive HitH (A : Around) (s : Shared) (ys : List (K × Addr × Value)) : List (K × Addr × Value) → Bool → Prop
  | nil : HitH A s ys [] true
  | miss {k : K} {p : Addr × Value} {r : List (K × Addr × Value)} : atKey ys k = none → HitH A s ys ((k, p) :: r) false
  | hit {k : K} {p q : Addr × Value} {r : List (K × Addr × Value)} {e b : Bool} : atKey ys k = some q → SeqAt.EqAt A s p.2 q.2 e → HitH A s ys r b → HitH A s ys ((k, p) :: r) (e && b)
theorem HitH.inv {ys : List (K × Addr × Value)} {k : K} {p : Addr × Value} {r : List (K × Addr × Value)} {b : Bool} (h : HitH A s ys ((k, p) :: r) b) :
    (atKey ys k = none ∧ b = false) ∨ ∃ q e b', atKey ys k = some q ∧ SeqAt.EqAt A s p.2 q.2 e ∧ HitH A s ys r b' ∧ b = (e && b') := by
  cases h with
  | miss hn => exact .inl ⟨hn, rfl⟩
  | hit hy he hr => exact .inr ⟨_, _, _, hy, he, hr, rfl⟩
theorem same_h {nm : String} {a b : Addr} {xs ys : List (K × Addr × Value)} {r : Bool} {Q : Bool → Shared → Prop} (ha : (a == sysModules) = false) (hb : (b == sysModules) = false) (hu : knd.room A)
    (da : s.heap.DictOfH knd a xs) (db : s.heap.DictOfH knd b ys) (hits : xs.length = ys.length → HitH A s ys xs r) (h : Q (xs.length == ys.length && r) s) :
    wpAny (model prog w) A (Builtin.Dict.samePairs nm a b) Q E s := by
  obtain ⟨oa, es, ep, hoa, _, hda, hea, hia, hna⟩ := da
  obtain ⟨ob, es', ep', hob, _, hdb, heb, hib, hnb⟩ := db
  have hla : xs.length = es.size := (size_of_entries hea).symm
  have hlb : ys.length = es'.size := (size_of_entries heb).symm
  rw [hla, hlb] at h
  unfold Builtin.Dict.samePairs Builtin.Dict.showsAll
  rw [if_neg (show ¬ (a == sysModules) = true by rw [ha]; exact Bool.false_ne_true), if_neg (show ¬ (b == sysModules) = true by rw [hb]; exact Bool.false_ne_true)]
  refine wpAny_bind (wpAny_pure (wpAny_bind (wpAny_pure ?_)))
  refine wpAny_bind (wpAny_dictEntries hoa hda ?_)
  dsimp only
  refine wpAny_bind (wpAny_dictEntries hob hdb ?_)
  by_cases hsz : es.size = es'.size
  case neg =>
    rw [if_pos (by simpa using hsz)]
    have hbf : (es.size == es'.size) = false := by simpa using hsz
    rw [hbf, Bool.false_and] at h
    exact wpAny_bind (wpAny_rule (wpAny_pure h))
  case pos =>
    have h' : Q r s := by simpa [hsz] using h
    have hits' := hits (by rw [hla, hlb]; exact hsz)
    rw [if_neg (by rw [hsz]; simp)]
    refine wpAny_bind (wpAny_dictEpoch hoa hda ?_)
    refine wpAny_bind ?_
    rw [Std.Legacy.Range.forIn_eq_forIn_range']
    simp only [Std.Legacy.Range.size, Nat.sub_zero, Nat.add_sub_cancel, Nat.div_one]
    refine wpAny_forIn_list _
      (fun rest q s' => s' = s ∧ q = (none, ()) ∧ ∃ i, rest = List.range' i (es.size - i) ∧ i ≤ es.size ∧ HitH A s ys (xs.drop i) r)
      _ ?_ ?_ _ _ ⟨rfl, rfl, 0, by simp, Nat.zero_le _, hits'⟩
    · rintro x rest q s' ⟨rfl, rfl, i, hr, hi, hpre⟩
      have hlt : i < es.size := by
        rcases Nat.lt_or_ge i es.size with h | h
        · exact h
        · rw [Nat.sub_eq_zero_of_le h] at hr; simp at hr
      obtain ⟨rfl, hrest⟩ : x = i ∧ rest = List.range' (i + 1) (es.size - (i + 1)) := by
        have e : es.size - i = (es.size - (i + 1)) + 1 := by omega
        rw [e, List.range'_succ] at hr
        injection hr with h1 h2
        exact ⟨h1, h2⟩
      refine wpAny_bind (wpAny_dictEntries hoa hda ?_)
      have hlt' : x < xs.length := by rw [hla]; exact hlt
      obtain ⟨k, p, hkp⟩ : ∃ k p, xs[x] = (k, p) := ⟨_, _, rfl⟩
      have hdrop : xs.drop x = (k, p) :: xs.drop (x + 1) := by rw [← hkp]; exact List.drop_eq_getElem_cons hlt'
      have hkey : knd.is s'.heap k p.1 := by have := hia xs[x] (List.getElem_mem hlt'); rwa [hkp] at this
      rw [entry_at hea x, List.getElem?_eq_getElem hlt', hkp]
      rw [hdrop] at hpre
      show wpAny _ _ (holding [Value.ref p.1, p.2] _ >>= _) _ _ _
      refine wpAny_bind (wpAny_holding (wpAny_bind (wpAny_dictFind_heap hu hkey hob hdb heb hib hnb ?_ ?_)))
      · intro hno
        have hn : atKey ys k = none := atKey_none_of_get hno
        rcases hpre.inv with ⟨_, er⟩ | ⟨y, _, _, hy, _⟩
        · rw [er] at h'
          refine wpAny_pure ?_
          show wpAny _ _ (if (!false) = true then _ else _) _ _ _
          rw [if_pos (by decide)]
          exact wpAny_pure (wpAny_pure h')
        · rw [hn] at hy; exact nomatch hy
      · intro j q hj
        have hv' : atKey ys k = some q := atKey_of_get hnb hj
        refine wpAny_bind (wpAny_dictEntries hob hdb ?_)
        rw [entry_at heb j, hj]
        rcases hpre.inv with ⟨hn, _⟩ | ⟨y, e, b', hy, he, hrr, er⟩
        · rw [hv'] at hn; exact nomatch hn
        · have ey : q = y := Option.some.inj (hv'.symm.trans hy)
          rw [← ey] at he
          refine wpAny_holding (he prog w _ _ ?_)
          cases e with
          | false =>
            rw [er, Bool.false_and] at h'
            show wpAny _ _ (if (!false) = true then _ else _) _ _ _
            rw [if_pos (by decide)]
            exact wpAny_pure (wpAny_pure h')
          | true =>
            rw [Bool.true_and] at er
            rw [← er] at hrr
            show wpAny _ _ (if (!true) = true then _ else _) _ _ _
            rw [if_neg (by decide)]
            refine wpAny_bind (wpAny_dictEpoch hoa hda ?_)
            rw [if_neg (by simp)]
            exact wpAny_pure ⟨rfl, rfl, x + 1, hrest, hlt, hrr⟩
    · rintro q s' ⟨rfl, rfl, i, hr, hi, hpre⟩
      have hin : i = es.size := by
        rcases Nat.lt_or_ge i es.size with h | h
        · have e : es.size - i = (es.size - (i + 1)) + 1 := by omega
          rw [e, List.range'_succ] at hr; exact nomatch hr
        · exact Nat.le_antisymm hi h
      refine wpAny_pure ?_
      rw [hin, ← hla, List.drop_length] at hpre
      cases hpre
      exact h'
theorem deq_h {a b : Addr} {xs ys : List (K × Addr × Value)} {r : Bool} {Q : Value → Shared → Prop} (ha : (a == sysModules) = false) (hb : (b == sysModules) = false) (hr : knd.room A.in1)
    (da : s.heap.DictOfH knd a xs) (db : s.heap.DictOfH knd b ys) (hu : A.units < cLine) (hits : xs.length = ys.length → HitH A.in1 s ys xs r) (h : Q (.bool (xs.length == ys.length && r)) s) :
    wpAny (model prog w) A (compareOp .Eq (.ref a) (.ref b)) Q E s := by
  refine wpAny_richCompare_same_room (op := .Eq) da.typeIs db.typeIs PySem.F.slot_dict_eq (wpAny_call_entry PySem.F.slot_dict_eq da.typeIs PySem.F.entry_dict_eq ?_ (PySem.F.args_dict_eq_2 _ _)) hu
  show wpAny _ _ (Builtin.Dict.dictSlotArgs "__eq__" ⟨[.ref a, .ref b], []⟩ >>= _) _ _ s
  refine wpAny_bind ?_
  unfold Builtin.Dict.dictSlotArgs
  refine wpAny_bind (wpAny_notOrdered_dict da.typeIs ?_)
  show wpAny _ _ (pure (Value.ref a, Value.ref b)) _ _ s
  refine wpAny_pure ?_
  refine wpAny_bind (wpAny_isInstance (T := "dict") db.typeIs PySem.F.sub_dict_dict ?_)
  simp only [Bool.not_true, Bool.false_eq_true, if_false]
  refine wpAny_bind (wpAny_pure (wpAny_bind (wpAny_pure ?_)))
  refine wpAny_bind (same_h ha hb hr da db hits ?_)
  refine wpAny_pure ⟨_, rfl, ?_, ?_⟩
  · exact fun x => nomatch x
  · simpa using h
theorem dne_h {a b : Addr} {xs ys : List (K × Addr × Value)} {r : Bool} {Q : Value → Shared → Prop} (ha : (a == sysModules) = false) (hb : (b == sysModules) = false) (hr : knd.room A.in1)
    (da : s.heap.DictOfH knd a xs) (db : s.heap.DictOfH knd b ys) (hu : A.units < cLine) (hits : xs.length = ys.length → HitH A.in1 s ys xs r) (h : Q (.bool (!(xs.length == ys.length && r))) s) :
    wpAny (model prog w) A (compareOp .NotEq (.ref a) (.ref b)) Q E s := by
  refine wpAny_richCompare_same_room (op := .NotEq) da.typeIs db.typeIs PySem.F.slot_dict_ne (wpAny_call_entry PySem.F.slot_dict_ne da.typeIs PySem.F.entry_dict_ne ?_ (PySem.F.args_dict_ne_2 _ _)) hu
  show wpAny _ _ (Builtin.Dict.dictSlotArgs "__ne__" ⟨[.ref a, .ref b], []⟩ >>= _) _ _ s
  refine wpAny_bind ?_
  unfold Builtin.Dict.dictSlotArgs
  refine wpAny_bind (wpAny_notOrdered_dict da.typeIs ?_)
  show wpAny _ _ (pure (Value.ref a, Value.ref b)) _ _ s
  refine wpAny_pure ?_
  refine wpAny_bind (wpAny_isInstance (T := "dict") db.typeIs PySem.F.sub_dict_dict ?_)
  simp only [Bool.not_true, Bool.false_eq_true, if_false]
  refine wpAny_bind (wpAny_pure (wpAny_bind (wpAny_pure ?_)))
  refine wpAny_bind (same_h ha hb hr da db hits ?_)
  refine wpAny_pure ⟨_, rfl, ?_, ?_⟩
  · exact fun x => nomatch x
  · simpa using h
end
/-- the same pairs, by what is known of the two -/
inductive HitT (ls : List (List L2.Key × V)) : List (List L2.Key × V) → Bool → Prop
  | nil : HitT ls [] true
  | miss {k : List L2.Key} {x : V} {r : List (List L2.Key × V)} : valV ls k = none → HitT ls ((k, x) :: r) false
  | hit {k : List L2.Key} {i j : Int} {r : List (List L2.Key × V)} {b : Bool} : valV ls k = some (.int j) → HitT ls r b → HitT ls ((k, .int i) :: r) (decide (i = j) && b)
theorem eq_int {A : Around} {s : Shared} {i j : Int} {v u : Value} (hv : RelV (.int i) v) (hu : RelV (.int j) u) : SeqAt.EqAt A s v u (decide (i = j)) := by
  obtain ⟨t, rfl⟩ := hv
  obtain ⟨t', rfl⟩ := hu
  have := PySem.W.keq_flat (A := A) (s := s) (PyProof.V.Flat.int i t) (PyProof.V.Flat.int j t')
  exact this
theorem HitT.h {A : Around} {s : Shared} {H : Hp} {ls : List (List L2.Key × V)} {ys : List (List L2.Key × Addr × Value)} (kt : KT H ls ys) : ∀ {ks : List (List L2.Key × V)} {xs : List (List L2.Key × Addr × Value)} {b : Bool}, KT H ks xs → HitT ls ks b → HitH A s ys xs b := by
  intro ks xs b kx
  induction kx generalizing b with
  | nil => intro h; cases h; exact .nil
  | @cons p q ps qs h0 t ih =>
    intro h
    obtain ⟨e1, _, rv⟩ := h0
    obtain ⟨qk, qp⟩ := q
    cases h with
    | miss hn =>
      cases e1
      have := kt.val qk
      rw [hn] at this
      refine .miss ?_
      cases c : atKey ys qk with
      | none => rfl
      | some z => rw [c] at this; exact this.elim
    | hit hs hr =>
      cases e1
      have := kt.val qk
      rw [hs] at this
      cases c : atKey ys qk with
      | none => rw [c] at this; exact this.elim
      | some z =>
        rw [c] at this
        exact .hit c (eq_int rv this) (ih hr)
def rDeqT : R2 := fun x y H Q => ∃ a b ks ls r, x = .ref a ∧ y = .ref b ∧ H a = some (.dT ks) ∧ H b = some (.dT ls) ∧ HitT ls ks r ∧ Q (.bl (ks.length == ls.length && r)) H
def rDneT : R2 := fun x y H Q => ∃ a b ks ls r, x = .ref a ∧ y = .ref b ∧ H a = some (.dT ks) ∧ H b = some (.dT ls) ∧ HitT ls ks r ∧ Q (.bl (!(ks.length == ls.length && r))) H
section
variable {X : Cx}
theorem op_deqT (hu : X.A.units + 1 < cLine) : OpR X (compareOp .Eq) rDeqT := by
  intro pins s σ H x y v u Q I rx ry h
  obtain ⟨a, b, ks, ls, r, rfl, rfl, ea, eb, hh, q⟩ := h
  obtain rfl : v = Value.ref a := rx
  obtain rfl : u = Value.ref b := ry
  obtain ⟨_, ya, va, ra, da⟩ := dt_of I.hok ea
  obtain ⟨_, yb, vb, rb, db⟩ := dt_of I.hok eb
  exact deq_h ya yb (tupleKind_room_in1 hu) da db (by omega) (fun _ => hh.h rb ra) (fin_bl I q (by rw [← ra.length, ← rb.length]))
theorem op_dneT (hu : X.A.units + 1 < cLine) : OpR X (compareOp .NotEq) rDneT := by
  intro pins s σ H x y v u Q I rx ry h
  obtain ⟨a, b, ks, ls, r, rfl, rfl, ea, eb, hh, q⟩ := h
  obtain rfl : v = Value.ref a := rx
  obtain rfl : u = Value.ref b := ry
  obtain ⟨_, ya, va, ra, da⟩ := dt_of I.hok ea
  obtain ⟨_, yb, vb, rb, db⟩ := dt_of I.hok eb
  exact dne_h ya yb (tupleKind_room_in1 hu) da db (by omega) (fun _ => hh.h rb ra) (fin_bl I q (by rw [← ra.length, ← rb.length]))
end
def deqM {κ : Type} [DecidableEq κ] (m n : Dc κ Int) : Bool := m.length == n.length && m.all fun p => decide (valM n p.1 = some p.2)
section
variable {K : PySem.W.Frag} {R : Grp} {H Ho : Hp} {v u : V} {Q : VK}
theorem hit_M {ls : List (List L2.Key × V)} {n : Dc (Int × Int) Int} (dn : DM K Ho ls n) : ∀ {ks : List (List L2.Key × V)} {m : Dc (Int × Int) Int}, DM K Ho ks m → HitT ls ks (m.all fun p => decide (valM n p.1 = some p.2)) := by
  intro ks
  induction ks with
  | nil =>
    intro m d
    have := d.len
    cases m with
    | nil => exact .nil
    | cons => simp at this
  | cons p ks ih =>
    intro m d
    cases m with
    | nil => have := d.len; simp at this
    | cons q m =>
      obtain ⟨k, x⟩ := p
      obtain ⟨k', i⟩ := q
      obtain ⟨d1, d2⟩ := d
      rw [List.map_cons, List.map_cons] at d1
      injection d1 with e1 e2
      cases d2 with
      | cons h1 h2 =>
      have ex : x = V.int i := d_int h1
      have t := ih (m := m) ⟨e2, h2⟩
      dsimp only at e1
      subst ex e1
      rw [List.all_cons]
      cases c : valM n k' with
      | none =>
        have := (dn.val k').1 c
        rw [show decide ((none : Option Int) = some i) = false from decide_eq_false nofun, Bool.false_and]
        exact .miss this
      | some j =>
        obtain ⟨y, ey, dy⟩ := (dn.val k').2 j c
        rw [d_int dy] at ey
        rw [show decide (some j = some i) = decide (i = j) from by by_cases e : i = j <;> simp [e, eq_comm]]
        exact .hit ey t
theorem y_deqT {m n : Dc (Int × Int) Int} (b1 : BD K R Ho v m) (b2 : BD K R Ho u n) (z : Zs R H Ho) (k : Q (.bl (deqM m n)) H) : rDeqT v u H Q := by
  obtain ⟨g, ⟨p, ks, rfl, d, rfl⟩, hg⟩ := b1
  obtain ⟨g2, ⟨q, ls, rfl, d2, rfl⟩, hg2⟩ := b2
  refine ⟨p, q, ks, ls, _, rfl, rfl, (z.rt _ (hg _ List.mem_cons_self)).1, (z.rt _ (hg2 _ List.mem_cons_self)).1, hit_M d2 d, ?_⟩
  rw [show ks.length = m.length from d.len, show ls.length = n.length from d2.len]
  exact k
theorem y_dneT {m n : Dc (Int × Int) Int} (b1 : BD K R Ho v m) (b2 : BD K R Ho u n) (z : Zs R H Ho) (k : Q (.bl (!deqM m n)) H) : rDneT v u H Q := by
  obtain ⟨g, ⟨p, ks, rfl, d, rfl⟩, hg⟩ := b1
  obtain ⟨g2, ⟨q, ls, rfl, d2, rfl⟩, hg2⟩ := b2
  refine ⟨p, q, ks, ls, _, rfl, rfl, (z.rt _ (hg _ List.mem_cons_self)).1, (z.rt _ (hg2 _ List.mem_cons_self)).1, hit_M d2 d, ?_⟩
  rw [show ks.length = m.length from d.len, show ls.length = n.length from d2.len]
  exact k
end
end Z

/-! # Ym: what the computations promise, in plain Lean -/
namespace Z
open PySem L2
section
variable {α β γ S ρ : Type}
theorem run_bind {c : W α} {f : α → W β} {Φ : β → Prop} : (W.bind c f).run Φ = c.run fun a => (f a).run Φ := propext ⟨fun h => h, fun h => h⟩
theorem run_bind2 {c : W (α × β)} {f : α → β → W γ} {Φ : γ → Prop} : (W.bind2 c f).run Φ = c.run fun r => (f r.1 r.2).run Φ := propext ⟨fun h => h, fun h => h⟩
theorem run_rt {a : α} {Φ : α → Prop} : (W.ret a).run Φ = Φ a := propext ⟨fun h => h, fun h => h⟩
theorem run_guard {p : Prop} {c : W α} {Φ : α → Prop} : (W.guard p c).run Φ = (p ∧ c.run Φ) := propext ⟨fun h => h, fun h => h⟩
theorem run_opt {o : Option α} {Φ : α → Prop} : (W.opt o).run Φ = ∃ a, o = some a ∧ Φ a := propext ⟨fun h => h, fun h => h⟩
theorem run_ite {b : Bool} {x y : W α} {Φ : α → Prop} : (W.ite b x y).run Φ = ((b = true → x.run Φ) ∧ (b = false → y.run Φ)) := propext ⟨fun h => h, fun h => h⟩
theorem run_if {b : Bool} {x y : W α} {Φ : α → Prop} : (W.ite b x y).run Φ = (if b = true then x.run Φ else y.run Φ) := by
  rw [run_ite]; cases b <;> simp
theorem run_mono {c : W α} {Φ Φ' : α → Prop} (h : c.run Φ) (k : ∀ a, Φ a → Φ' a) : c.run Φ' := c.mono _ _ k h
theorem atI_some {xs : List α} {i : Int} (h0 : 0 ≤ i) (h : i < xs.length) : ∃ a, a ∈ xs ∧ atI xs i = some a := by
  obtain ⟨j, rfl⟩ : ∃ j : Nat, i = j := ⟨i.toNat, by omega⟩
  have hj : j < xs.length := by omega
  exact ⟨xs[j], List.getElem_mem hj, atI_nat (List.getElem?_eq_getElem hj)⟩
theorem atI_get' {xs : List α} {i : Int} {a : α} (h0 : 0 ≤ i) (h : xs[i.toNat]? = some a) : atI xs i = some a := by
  obtain ⟨j, rfl⟩ : ∃ j : Nat, i = j := ⟨i.toNat, by omega⟩
  exact atI_nat (by simpa using h)
theorem ixN_nat' {n : Nat} {i : Int} (h0 : 0 ≤ i) (h : i < n) : ixN n i = some i.toNat := by
  unfold ixN
  rw [if_pos h0, if_pos h]
theorem forL_wp (Inv : Nat → S → Prop) {xs : List α} {s : S} {f : α → S → W S} {Φ : S → Prop} (h0 : Inv 0 s) (step : ∀ i x s, xs[i]? = some x → Inv i s → (f x s).run (Inv (i + 1))) (k : ∀ s, Inv xs.length s → Φ s) : (W.forL xs s f).run Φ := by
  induction xs generalizing s Inv with
  | nil => exact k s h0
  | cons x xs ih =>
    show (f x s).run (fun s' => (W.forL xs s' f).run Φ)
    refine run_mono (step 0 x s rfl h0) fun s' h' => ?_
    exact ih (fun i => Inv (i + 1)) h' (fun i y s hy hi => step (i + 1) y s (by simpa using hy) hi) fun s hs => k s hs
theorem forC_wp (Inv : Nat → S → Prop) {xs : List α} {s : S} {f : α → S → W (Ctl ρ S)} {Φ : Ctl ρ S → Prop} (h0 : Inv 0 s)
    (step : ∀ i x s, xs[i]? = some x → Inv i s → (f x s).run (CtlP (Inv (i + 1)) (fun s => Φ (.nx s)) (fun r => Φ (.rt r)))) (k : ∀ s, Inv xs.length s → Φ (.nx s)) : (W.forC xs s f).run Φ := by
  induction xs generalizing s Inv with
  | nil => exact k s h0
  | cons x xs ih =>
    show (W.bind (f x s) _).run Φ
    rw [run_bind]
    refine run_mono (step 0 x s rfl h0) fun c hc => ?_
    cases c with
    | nx s' => exact ih (fun i => Inv (i + 1)) hc (fun i y s hy hi => step (i + 1) y s (by simpa using hy) hi) fun s hs => k s hs
    | bk s' => exact hc
    | rt r => exact hc
theorem comp_wp {xs : List α} {acc : List β} {ct : α → W Bool} {cf : α → W β} (t : α → Bool) (f : α → β) {Φ : List β → Prop} (ht : ∀ x ∈ xs, ∀ Ψ : Bool → Prop, Ψ (t x) → (ct x).run Ψ) (hf : ∀ x ∈ xs, t x = true → ∀ Ψ : β → Prop, Ψ (f x) → (cf x).run Ψ)
    (k : Φ (acc ++ (xs.filter t).map f)) : (comp xs acc ct cf).run Φ := by
  induction xs generalizing acc with
  | nil =>
    simp at k
    exact k
  | cons x xs ih =>
    refine ht x List.mem_cons_self _ ⟨fun e => ?_, fun e => ?_⟩
    · refine hf x List.mem_cons_self e _ (ih (fun y hy => ht y (List.mem_cons_of_mem _ hy)) (fun y hy => hf y (List.mem_cons_of_mem _ hy)) ?_)
      simpa [List.filter_cons, e] using k
    · refine ih (fun y hy => ht y (List.mem_cons_of_mem _ hy)) (fun y hy => hf y (List.mem_cons_of_mem _ hy)) ?_
      simpa [List.filter_cons, e] using k
theorem compG_wp {xs : List α} {ct : α → W Bool} {cf : α → W β} (t : α → Bool) (f : α → β) {Φ : List β → Prop} (hl : xs.length ≤ sizeLine) (ht : ∀ x ∈ xs, ∀ Ψ : Bool → Prop, Ψ (t x) → (ct x).run Ψ) (hf : ∀ x ∈ xs, t x = true → ∀ Ψ : β → Prop, Ψ (f x) → (cf x).run Ψ)
    (k : Φ ((xs.filter t).map f)) : (compG xs ct cf).run Φ := ⟨hl, comp_wp t f ht hf (by simpa using k)⟩
theorem small {n : Nat} (h : n ≤ 100000) : n ≤ sizeLine := Nat.le_trans h (by decide)
theorem small' {n : Nat} (h : n ≤ 100000) : n < sizeLine := Nat.lt_of_le_of_lt h (by decide)
theorem apd_wp {xs : List α} {x : α} {Φ : List α → Prop} (h : xs.length ≤ 100000) (k : Φ (xs ++ [x])) : (apd xs x).run Φ := ⟨small' h, k⟩
theorem sti_wp {xs : List α} {i : Int} {y : α} {Φ : List α → Prop} (h0 : 0 ≤ i) (h : i < xs.length) (k : Φ (xs.set i.toNat y)) : (sti xs i y).run Φ := ⟨i.toNat, ixN_nat' h0 h, k⟩
/-! slices -/
theorem sIx_none (n d : Nat) : HT.sIx n d none = d := HT.sIx_none n d
theorem cut_to {xs : List α} {k : Int} (h0 : 0 ≤ k) : cut xs none (some k) = xs.take k.toNat := by
  obtain ⟨j, rfl⟩ : ∃ j : Nat, k = j := ⟨k.toNat, by omega⟩
  unfold cut
  rw [HT.sIx_none, HT.sIx_nat]
  simp only [List.drop_zero, Nat.sub_zero, Int.toNat_natCast]
  by_cases h : j ≤ xs.length
  · rw [Nat.min_eq_left h]
  · rw [Nat.min_eq_right (by omega), List.take_of_length_le (Nat.le_refl _), List.take_of_length_le (by omega)]
theorem cut_init {xs : List α} : cut xs none (some (-1)) = xs.dropLast := by
  unfold cut
  rw [HT.sIx_none]
  have e : HT.sIx xs.length xs.length (some (-1)) = xs.length - 1 := by
    simp only [HT.sIx]
    rw [if_pos (by decide)]
    omega
  rw [e]
  simp [List.dropLast_eq_take]
theorem cut_from {xs : List α} {k : Int} (h0 : 0 ≤ k) : cut xs (some k) none = xs.drop k.toNat := by
  obtain ⟨j, rfl⟩ : ∃ j : Nat, k = j := ⟨k.toNat, by omega⟩
  unfold cut
  rw [HT.sIx_none, HT.sIx_nat]
  simp only [Int.toNat_natCast]
  by_cases h : j ≤ xs.length
  · rw [Nat.min_eq_left h, List.take_of_length_le (by simp)]
  · rw [Nat.min_eq_right (by omega)]
    simp
    omega
end
/-! ### equal data -/
/-- data that == tells apart as Lean does, and that may be compared -/
class Eqv (α : Type) [Py α] where
  eqv : ∀ x y : α, PyData.eqv (toPy x) (toPy y) = true ↔ x = y
  d : Nat
  shape : ∀ x : α, (toPy x).depth ≤ d
theorem eqvAll_map {α : Type} [Py α] [Eqv α] : ∀ xs ys : List α, PyData.eqvAll (xs.map Py.toPy) (ys.map Py.toPy) = true ↔ xs = ys
  | [], [] => by simp [PyData.eqvAll]
  | [], y :: ys => by simp [PyData.eqvAll]
  | x :: xs, [] => by simp [PyData.eqvAll]
  | x :: xs, y :: ys => by
    have h1 := Eqv.eqv x y
    have h2 := eqvAll_map xs ys
    simp only [List.map_cons, PyData.eqvAll, Bool.and_eq_true, List.cons.injEq]
    rw [← h1, ← h2]
theorem depthAll_map {α : Type} [Py α] [Eqv α] : ∀ xs : List α, PyData.depthAll (xs.map Py.toPy) ≤ Eqv.d α
  | [] => by simp [PyData.depthAll]
  | x :: xs => by
    have h1 := Eqv.shape x
    have h2 := depthAll_map xs
    simp only [List.map_cons, PyData.depthAll]
    exact Nat.max_le.mpr ⟨h1, h2⟩
instance : Eqv Int := ⟨fun x y => by simp [toPy, Py.toPy, PyData.eqv], 0, fun x => by simp [toPy, Py.toPy, PyData.depth]⟩
instance : Eqv Bool := ⟨fun x y => by simp [toPy, Py.toPy, PyData.eqv], 0, fun x => by simp [toPy, Py.toPy, PyData.depth]⟩
instance : Eqv Str := ⟨fun x y => by simp [toPy, Py.toPy, PyData.eqv], 0, fun x => by simp [toPy, Py.toPy, PyData.depth]⟩
instance {α : Type} [Py α] [Eqv α] : Eqv (List α) := ⟨fun x y => by
  show PyData.eqv (.list (x.map Py.toPy)) (.list (y.map Py.toPy)) = true ↔ x = y
  simp only [PyData.eqv]
  exact eqvAll_map x y, Eqv.d α + 1, fun x => by
  show PyData.depth (.list (x.map Py.toPy)) ≤ _
  simp only [PyData.depth]
  exact Nat.succ_le_succ (depthAll_map x)⟩
instance {α β : Type} [Py α] [Py β] [Eqv α] [Eqv β] : Eqv (α × β) := ⟨fun x y => by
  obtain ⟨x1, x2⟩ := x
  obtain ⟨y1, y2⟩ := y
  show PyData.eqv (.tuple [toPy x1, toPy x2]) (.tuple [toPy y1, toPy y2]) = true ↔ _
  simp only [PyData.eqv, PyData.eqvAll, Bool.and_eq_true, Bool.and_true, Prod.mk.injEq]
  rw [Eqv.eqv x1 y1, Eqv.eqv x2 y2], Eqv.d α + Eqv.d β + 1, fun x => by
  obtain ⟨x1, x2⟩ := x
  show PyData.depth (.tuple [toPy x1, toPy x2]) ≤ _
  have h1 := Eqv.shape x1
  have h2 := Eqv.shape x2
  simp only [PyData.depth, PyData.depthAll]
  omega⟩
instance {α β γ : Type} [Py α] [Py β] [Py γ] [Eqv α] [Eqv β] [Eqv γ] : Eqv (P3 α β γ) := ⟨fun x y => by
  obtain ⟨x1, x2, x3⟩ := x
  obtain ⟨y1, y2, y3⟩ := y
  show PyData.eqv (.tuple [toPy x1, toPy x2, toPy x3]) (.tuple [toPy y1, toPy y2, toPy y3]) = true ↔ _
  simp only [PyData.eqv, PyData.eqvAll, Bool.and_eq_true, Bool.and_true, P3.mk.injEq]
  rw [Eqv.eqv x1 y1, Eqv.eqv x2 y2, Eqv.eqv x3 y3], Eqv.d α + Eqv.d β + Eqv.d γ + 1, fun x => by
  obtain ⟨x1, x2, x3⟩ := x
  show PyData.depth (.tuple [toPy x1, toPy x2, toPy x3]) ≤ _
  have h1 := Eqv.shape x1
  have h2 := Eqv.shape x2
  have h3 := Eqv.shape x3
  simp only [PyData.depth, PyData.depthAll]
  omega⟩
instance {α β γ δ : Type} [Py α] [Py β] [Py γ] [Py δ] [Eqv α] [Eqv β] [Eqv γ] [Eqv δ] : Eqv (P4 α β γ δ) := ⟨fun x y => by
  obtain ⟨x1, x2, x3, x4⟩ := x
  obtain ⟨y1, y2, y3, y4⟩ := y
  show PyData.eqv (.tuple [toPy x1, toPy x2, toPy x3, toPy x4]) (.tuple [toPy y1, toPy y2, toPy y3, toPy y4]) = true ↔ _
  simp only [PyData.eqv, PyData.eqvAll, Bool.and_eq_true, Bool.and_true, P4.mk.injEq]
  rw [Eqv.eqv x1 y1, Eqv.eqv x2 y2, Eqv.eqv x3 y3, Eqv.eqv x4 y4], Eqv.d α + Eqv.d β + Eqv.d γ + Eqv.d δ + 1, fun x => by
  obtain ⟨x1, x2, x3, x4⟩ := x
  show PyData.depth (.tuple [toPy x1, toPy x2, toPy x3, toPy x4]) ≤ _
  have h1 := Eqv.shape x1
  have h2 := Eqv.shape x2
  have h3 := Eqv.shape x3
  have h4 := Eqv.shape x4
  simp only [PyData.depth, PyData.depthAll]
  omega⟩
theorem eqD_iff {α : Type} [Py α] [Eqv α] {x y : α} : eqD x y = true ↔ x = y := Eqv.eqv x y
theorem eqD_dec {α : Type} [Py α] [Eqv α] [DecidableEq α] {x y : α} : eqD x y = decide (x = y) := by
  by_cases h : x = y
  · rw [decide_eq_true h]; exact eqD_iff.mpr h
  · rw [decide_eq_false h]
    cases e : eqD x y with
    | false => rfl
    | true => exact absurd (eqD_iff.mp e) h
theorem eqD_self {α : Type} [Py α] [Eqv α] (x : α) : eqD x x = true := eqD_iff.mpr rfl
/-- what may be laid at all: the texts in it are of signs that there are -/
class Lay (α : Type) [Py α] where
  ok : α → Prop
  lay : ∀ x : α, ok x → (toPy x).canLay0 = true
theorem canLayAll_map {α : Type} [Py α] [Lay α] : ∀ xs : List α, (∀ x ∈ xs, Lay.ok x) → PyData.canLayAll0 (xs.map Py.toPy) = true
  | [], _ => by simp [PyData.canLayAll0]
  | x :: xs, h => by
    simp only [List.map_cons, PyData.canLayAll0, Bool.and_eq_true]
    exact ⟨Lay.lay x (h x List.mem_cons_self), canLayAll_map xs fun y hy => h y (List.mem_cons_of_mem _ hy)⟩
instance : Lay Int := ⟨fun _ => True, fun x _ => by simp [toPy, Py.toPy, PyData.canLay0]⟩
instance : Lay Bool := ⟨fun _ => True, fun x _ => by simp [toPy, Py.toPy, PyData.canLay0]⟩
instance : Lay Str := ⟨fun x => PyData.strOk x = true, fun x h => by simpa [toPy, Py.toPy, PyData.canLay0] using h⟩
instance {α : Type} [Py α] [Lay α] : Lay (List α) := ⟨fun xs => ∀ x ∈ xs, Lay.ok x, fun xs h => by
  show PyData.canLay0 (.list (xs.map Py.toPy)) = true
  simp only [PyData.canLay0]
  exact canLayAll_map xs h⟩
instance {α β : Type} [Py α] [Py β] [Lay α] [Lay β] : Lay (α × β) := ⟨fun x => Lay.ok x.1 ∧ Lay.ok x.2, fun x h => by
  show PyData.canLay0 (.tuple [toPy x.1, toPy x.2]) = true
  simp only [PyData.canLay0, PyData.canLayAll0, Bool.and_eq_true, Bool.and_true]
  exact ⟨Lay.lay _ h.1, Lay.lay _ h.2⟩⟩
instance {α β γ : Type} [Py α] [Py β] [Py γ] [Lay α] [Lay β] [Lay γ] : Lay (P3 α β γ) := ⟨fun x => Lay.ok x.a ∧ Lay.ok x.b ∧ Lay.ok x.c, fun x h => by
  show PyData.canLay0 (.tuple [toPy x.a, toPy x.b, toPy x.c]) = true
  simp only [PyData.canLay0, PyData.canLayAll0, Bool.and_eq_true, Bool.and_true]
  exact ⟨Lay.lay _ h.1, Lay.lay _ h.2.1, Lay.lay _ h.2.2⟩⟩
instance {α β γ δ : Type} [Py α] [Py β] [Py γ] [Py δ] [Lay α] [Lay β] [Lay γ] [Lay δ] : Lay (P4 α β γ δ) := ⟨fun x => Lay.ok x.a ∧ Lay.ok x.b ∧ Lay.ok x.c ∧ Lay.ok x.d, fun x h => by
  show PyData.canLay0 (.tuple [toPy x.a, toPy x.b, toPy x.c, toPy x.d]) = true
  simp only [PyData.canLay0, PyData.canLayAll0, Bool.and_eq_true, Bool.and_true]
  exact ⟨Lay.lay _ h.1, Lay.lay _ h.2.1, Lay.lay _ h.2.2.1, Lay.lay _ h.2.2.2⟩⟩
theorem okD_of {α : Type} [Py α] [Eqv α] [Lay α] {x : α} (h : Lay.ok x) (hd : Eqv.d α ≤ 64 := by decide) : okD x := by
  unfold okD SeqAt.shaped
  rw [Bool.and_eq_true]
  exact ⟨Lay.lay x h, decide_eq_true (Nat.le_trans (Eqv.shape x) hd)⟩
/-- kinds in which no text stands -/
class Pl (α : Type) [Py α] : Prop where
  lay : ∀ x : α, (toPy x).canLay0 = true
theorem plAll {α : Type} [Py α] [Pl α] : ∀ xs : List α, PyData.canLayAll0 (xs.map Py.toPy) = true
  | [] => by simp [PyData.canLayAll0]
  | x :: xs => by
    simp only [List.map_cons, PyData.canLayAll0, Bool.and_eq_true]
    exact ⟨Pl.lay x, plAll xs⟩
instance : Pl Int := ⟨fun x => by simp [toPy, Py.toPy, PyData.canLay0]⟩
instance : Pl Bool := ⟨fun x => by simp [toPy, Py.toPy, PyData.canLay0]⟩
instance : Pl Unit := ⟨fun x => by simp [toPy, Py.toPy, PyData.canLay0]⟩
instance {α : Type} [Py α] [Pl α] : Pl (List α) := ⟨fun xs => by
  show PyData.canLay0 (.list (xs.map Py.toPy)) = true
  simp only [PyData.canLay0]
  exact plAll xs⟩
instance {α : Type} [Py α] [Pl α] : Pl (Option α) := ⟨fun x => by
  cases x with
  | none => show PyData.canLay0 .none = true; simp [PyData.canLay0]
  | some a => exact Pl.lay a⟩
instance {α β : Type} [Py α] [Py β] [Pl α] [Pl β] : Pl (α × β) := ⟨fun x => by
  show PyData.canLay0 (.tuple [toPy x.1, toPy x.2]) = true
  simp only [PyData.canLay0, PyData.canLayAll0, Bool.and_eq_true, Bool.and_true]
  exact ⟨Pl.lay _, Pl.lay _⟩⟩
instance {α β γ : Type} [Py α] [Py β] [Py γ] [Pl α] [Pl β] [Pl γ] : Pl (P3 α β γ) := ⟨fun x => by
  show PyData.canLay0 (.tuple [toPy x.a, toPy x.b, toPy x.c]) = true
  simp only [PyData.canLay0, PyData.canLayAll0, Bool.and_eq_true, Bool.and_true]
  exact ⟨Pl.lay _, Pl.lay _, Pl.lay _⟩⟩
instance {α β γ δ : Type} [Py α] [Py β] [Py γ] [Py δ] [Pl α] [Pl β] [Pl γ] [Pl δ] : Pl (P4 α β γ δ) := ⟨fun x => by
  show PyData.canLay0 (.tuple [toPy x.a, toPy x.b, toPy x.c, toPy x.d]) = true
  simp only [PyData.canLay0, PyData.canLayAll0, Bool.and_eq_true, Bool.and_true]
  exact ⟨Pl.lay _, Pl.lay _, Pl.lay _, Pl.lay _⟩⟩
/-- kinds that are never None -/
class Nn (α : Type) [Py α] : Prop where
  ne : ∀ x : α, toPy x ≠ .none
  l : ∀ x : α, PyData.eqv (toPy x) .none = false
  r : ∀ x : α, PyData.eqv .none (toPy x) = false
instance : Nn Int := ⟨fun x e => (by cases e), fun x => (by simp [toPy, Py.toPy, PyData.eqv]), fun x => (by simp [toPy, Py.toPy, PyData.eqv])⟩
instance : Nn Bool := ⟨fun x e => (by cases e), fun x => (by simp [toPy, Py.toPy, PyData.eqv]), fun x => (by simp [toPy, Py.toPy, PyData.eqv])⟩
instance : Nn Str := ⟨fun x e => (by cases e), fun x => (by simp [toPy, Py.toPy, PyData.eqv]), fun x => (by simp [toPy, Py.toPy, PyData.eqv])⟩
instance {α : Type} [Py α] : Nn (List α) := ⟨fun x e => (by cases e), fun x => (by simp [toPy, Py.toPy, PyData.eqv]), fun x => (by simp [toPy, Py.toPy, PyData.eqv])⟩
instance {α β : Type} [Py α] [Py β] : Nn (α × β) := ⟨fun x e => (by cases e), fun x => (by simp [toPy, Py.toPy, PyData.eqv]), fun x => (by simp [toPy, Py.toPy, PyData.eqv])⟩
instance {α β γ : Type} [Py α] [Py β] [Py γ] : Nn (P3 α β γ) := ⟨fun x e => (by cases e), fun x => (by simp [toPy, Py.toPy, PyData.eqv]), fun x => (by simp [toPy, Py.toPy, PyData.eqv])⟩
instance {α β γ δ : Type} [Py α] [Py β] [Py γ] [Py δ] : Nn (P4 α β γ δ) := ⟨fun x e => (by cases e), fun x => (by simp [toPy, Py.toPy, PyData.eqv]), fun x => (by simp [toPy, Py.toPy, PyData.eqv])⟩
theorem nn {α : Type} [Py α] [Nn α] {x : Option α} : ∀ b : α, x = some b → toPy b ≠ .none := fun b _ => Nn.ne b
instance {α : Type} [Py α] [Eqv α] [Nn α] : Eqv (Option α) := ⟨fun x y => by
  cases x with
  | none =>
    cases y with
    | none => show PyData.eqv .none .none = true ↔ _; simp [PyData.eqv]
    | some b => show PyData.eqv .none (toPy b) = true ↔ _; rw [Nn.r]; simp
  | some a =>
    cases y with
    | none => show PyData.eqv (toPy a) .none = true ↔ _; rw [Nn.l]; simp
    | some b => show PyData.eqv (toPy a) (toPy b) = true ↔ _; rw [Eqv.eqv a b]; simp, Eqv.d α, fun x => by
  cases x with
  | none => show PyData.depth .none ≤ _; simp [PyData.depth]
  | some a => exact Eqv.shape a⟩
theorem okD_pl {α : Type} [Py α] [Eqv α] [Pl α] (x : α) (hd : Eqv.d α ≤ 64 := by decide) : okD x := by
  unfold okD SeqAt.shaped
  rw [Bool.and_eq_true]
  exact ⟨Pl.lay x, decide_eq_true (Nat.le_trans (Eqv.shape x) hd)⟩
theorem inD_iff {α : Type} [Py α] [Eqv α] {x : α} {ys : List α} : inD x ys = true ↔ x ∈ ys := by
  unfold inD
  rw [List.any_eq_true]
  constructor
  · rintro ⟨y, hy, e⟩
    rw [← eqD_iff.mp e]; exact hy
  · intro h
    exact ⟨x, h, eqD_self x⟩
theorem inD_dec {α : Type} [Py α] [Eqv α] [DecidableEq α] {x : α} {ys : List α} : inD x ys = decide (x ∈ ys) := by
  by_cases h : x ∈ ys
  · rw [decide_eq_true h]; exact inD_iff.mpr h
  · rw [decide_eq_false h]
    cases e : inD x ys with
    | false => rfl
    | true => exact absurd (inD_iff.mp e) h
end Z

namespace M
open PySem L2 Z


def m_names_L1 (hand_ : Int) (kind_ : Str) (cell_ : Int) (many_ : (List Int)) (found_ : (List (Int × Int))) : W ((List Int) × (List (Int × Int))) :=
  W.bind (W.opt (atI many_ hand_)) fun t14 => W.bind (apd found_ (hand_, t14)) fun found_ => W.bind (W.opt (atI many_ hand_)) fun t18 => W.bind (sti many_ hand_ (t18 + (1 : Int))) fun many_ => W.ret ((many_, found_))
def m_names (web_ : (List (P3 Int Str Int))) : W ((List (Int × Int))) :=
  W.guard (repG ([(0 : Int)] : (List Int)) (8 : Int)) (W.bind (W.ret (repL ([(0 : Int)] : (List Int)) (8 : Int))) fun many_ => W.bind (W.ret ([] : (List (Int × Int)))) fun found_ => W.bind (W.forL web_ (many_, found_) (fun a s => m_names_L1 a.a a.b a.c s.1 s.2)) (fun s => (fun many_ found_ => W.ret found_) s.1 s.2))
def m_places_of_L1 (called_ : (List (Int × Int))) (place_ : Int) (found_ : (Dc (Int × Int) Int)) : W ((Dc (Int × Int) Int)) :=
  W.bind (W.opt (atI called_ place_)) fun t9 => W.bind (putG found_ t9 place_) fun found_ => W.ret (found_)
def m_places_of (web_ : (List (P3 Int Str Int))) : W ((Dc (Int × Int) Int)) :=
  W.bind (m_names web_) fun t1 => W.bind (W.ret t1) fun called_ => W.bind (W.ret ([] : (Dc (Int × Int) Int))) fun found_ => W.guard (rngOk 0 ((web_).length : Int)) (W.bind (W.forL (rng 0 ((web_).length : Int)) found_ (fun a s => m_places_of_L1 called_ a s)) (fun s => (fun found_ => W.ret found_) s))
def m_touches_meet (one_ : (P3 Int Str Int)) (other_ : (P3 Int Str Int)) : W (Bool) :=
  W.ite ((decide (one_.a = other_.a)) || (!decide (one_.c = other_.c))) (W.ret false) (W.ret ((!decide (one_.b = ("load" : Str))) || (!decide (other_.b = ("load" : Str)))))
def m_ends_of (places_ : (Dc (Int × Int) Int)) (note_ : (P4 Int Int Int Int)) : W ((Int × Int)) :=
  W.bind (W.ret (valM places_ (note_.a, note_.b))) fun one_ => W.bind (W.ret (valM places_ (note_.c, note_.d))) fun other_ => W.bind (W.ite (decide (note_.a = note_.c)) (W.ret true) (W.guard (∀ b, one_ = some b → toPy b ≠ .none) (W.bind (W.ite (one_.isNone) (W.ret true) (W.guard (∀ b, other_ = some b → toPy b ≠ .none) (W.bind (W.ite (other_.isNone) (W.ret true) (W.bind (W.opt one_) fun t15 => W.bind (W.opt other_) fun t17 => W.ret (decide (t15 ≥ t17)))) (fun t19 => W.ret t19)))) (fun t23 => W.ret t23)))) (fun t27 => W.ite t27 (W.bad) (W.bind (W.opt one_) fun t31 => W.bind (W.opt other_) fun t33 => W.ret (t31, t33)))
def m_is_want (web_ : (List (P3 Int Str Int))) (places_ : (Dc (Int × Int) Int)) (want_ : (P4 Int Int Int Int)) : W (Bool) :=
  W.bind (W.ret (valM places_ (want_.a, want_.b))) fun one_ => W.bind (W.ret (valM places_ (want_.c, want_.d))) fun other_ => W.guard (∀ b, one_ = some b → toPy b ≠ .none) (W.bind (W.ite (one_.isNone) (W.ret true) (W.guard (∀ b, other_ = some b → toPy b ≠ .none) (W.bind (W.ite (other_.isNone) (W.ret true) (W.bind (W.opt one_) fun t13 => W.bind (W.opt other_) fun t15 => W.ret (decide (t13 ≥ t15)))) (fun t17 => W.ret t17)))) (fun t21 => W.ite t21 (W.ret false) (W.bind (W.opt one_) fun t25 => W.bind (W.opt (atI web_ t25)) fun t27 => W.bind (W.opt other_) fun t29 => W.bind (W.opt (atI web_ t29)) fun t31 => W.bind (m_touches_meet t27 t31) fun t33 => W.ret t33)))
def m_meets_want (web_ : (List (P3 Int Str Int))) (note_ : (P4 Int Int Int Int)) (want_ : (P4 Int Int Int Int)) : W (Bool) :=
  W.bind (m_places_of web_) fun t1 => W.bind (W.ret t1) fun places_ => W.bind (m_ends_of places_ note_) fun t5 => W.bind (m_is_want web_ places_ want_) fun t9 => W.ite (!t9) (W.bad) (W.ite ((!decide (note_.a = want_.a)) || (!decide (note_.c = want_.c))) (W.ret false) (W.ret ((decide (note_.b ≥ want_.b)) && (decide (note_.d ≤ want_.d)))))
def m_found_between_L1 (web_ : (List (P3 Int Str Int))) (called_ : (List (Int × Int))) (hand_ : Int) (other_ : Int) (j_ : Int) (found_ : (List ((P4 Int Int Int Int) × (P4 Int Int Int Int)))) (met_ : Int) (ahead_ : (List Int)) : W ((List ((P4 Int Int Int Int) × (P4 Int Int Int Int))) × Int × (List Int)) :=
  W.bind (W.opt (atI web_ j_)) fun t10 => W.bind (W.ite (decide (t10.a = hand_)) (W.bind (apd ahead_ j_) fun ahead_ => W.ret ((found_, met_, ahead_))) (W.bind (W.opt (atI web_ j_)) fun t13 => W.bind (W.ite (decide (t13.a = other_)) (W.bind (compG ahead_ (fun i_ => W.bind (W.opt (atI web_ i_)) fun t18 => W.bind (W.opt (atI web_ j_)) fun t20 => W.bind (m_touches_meet t18 t20) fun t22 => W.ret t22) (fun i_ => W.ret i_)) fun t29 => W.bind (W.ret (mxD t29 (-(1 : Int)))) fun latest_ => W.bind (W.ite (decide (latest_ > met_)) (W.bind (W.opt (atI ahead_ (-(1 : Int)))) fun t32 => W.bind (W.opt (atI called_ t32)) fun t34 => W.bind (W.opt (atI called_ j_)) fun t36 => W.bind (W.opt (atI called_ latest_)) fun t40 => W.bind (W.opt (atI called_ j_)) fun t42 => W.bind (apd found_ ((⟨t34.1, t34.2, t36.1, t36.2⟩ : (P4 Int Int Int Int)), (⟨t40.1, t40.2, t42.1, t42.2⟩ : (P4 Int Int Int Int)))) fun found_ => W.bind (W.ret j_) fun met_ => W.ret ((found_, met_))) (W.ret ((found_, met_)))) (fun s => (fun found_ met_ => W.ret ((found_, met_))) s.1 s.2)) (W.ret ((found_, met_)))) (fun s => (fun found_ met_ => W.ret ((found_, met_, ahead_))) s.1 s.2))) (fun s => (fun found_ met_ ahead_ => W.ret ((found_, met_, ahead_))) s.1 s.2.1 s.2.2)
def m_found_between (web_ : (List (P3 Int Str Int))) (called_ : (List (Int × Int))) (hand_ : Int) (other_ : Int) : W ((List ((P4 Int Int Int Int) × (P4 Int Int Int Int)))) :=
  W.bind (W.ret ([] : (List ((P4 Int Int Int Int) × (P4 Int Int Int Int))))) fun found_ => W.bind (W.ret (-(1 : Int))) fun met_ => W.bind (W.ret ([] : (List Int))) fun ahead_ => W.guard (rngOk 0 ((web_).length : Int)) (W.bind (W.forL (rng 0 ((web_).length : Int)) (found_, met_, ahead_) (fun a s => m_found_between_L1 web_ called_ hand_ other_ a s.1 s.2.1 s.2.2)) (fun s => (fun found_ met_ ahead_ => W.ret found_) s.1 s.2.1 s.2.2))
def m_all_found_L1 (web_ : (List (P3 Int Str Int))) (called_ : (List (Int × Int))) (hand_ : Int) (other_ : Int) (found_ : (List ((P4 Int Int Int Int) × (P4 Int Int Int Int)))) : W ((List ((P4 Int Int Int Int) × (P4 Int Int Int Int)))) :=
  W.bind (W.ite (!decide (other_ = hand_)) (W.bind (m_found_between web_ called_ hand_ other_) fun t11 => W.bind (exd found_ t11) fun found_ => W.ret (found_)) (W.ret (found_))) (fun s => (fun found_ => W.ret (found_)) s)
def m_all_found_L2 (web_ : (List (P3 Int Str Int))) (called_ : (List (Int × Int))) (hand_ : Int) (found_ : (List ((P4 Int Int Int Int) × (P4 Int Int Int Int)))) : W ((List ((P4 Int Int Int Int) × (P4 Int Int Int Int)))) :=
  W.guard (rngOk 0 (8 : Int)) (W.bind (W.forL (rng 0 (8 : Int)) found_ (fun a s => m_all_found_L1 web_ called_ hand_ a s)) (fun s => (fun found_ => W.ret (found_)) s))
def m_all_found (web_ : (List (P3 Int Str Int))) : W ((List ((P4 Int Int Int Int) × (P4 Int Int Int Int)))) :=
  W.bind (m_names web_) fun t1 => W.bind (W.ret t1) fun called_ => W.bind (W.ret ([] : (List ((P4 Int Int Int Int) × (P4 Int Int Int Int))))) fun found_ => W.guard (rngOk 0 (8 : Int)) (W.bind (W.forL (rng 0 (8 : Int)) found_ (fun a s => m_all_found_L2 web_ called_ a s)) (fun s => (fun found_ => W.ret found_) s))
def m_strict_notes (web_ : (List (P3 Int Str Int))) : W ((List (P4 Int Int Int Int))) :=
  W.bind (m_all_found web_) fun t1 => W.bind (compG t1 (fun a => (fun note_ want_ => W.ret true) a.1 a.2) (fun a => (fun note_ want_ => W.ret note_) a.1 a.2)) fun t10 => W.ret (srtK t10)
def m_wants_apart (web_ : (List (P3 Int Str Int))) : W ((List (P4 Int Int Int Int))) :=
  W.bind (m_all_found web_) fun t1 => W.bind (compG t1 (fun a => (fun note_ want_ => W.ret true) a.1 a.2) (fun a => (fun note_ want_ => W.ret want_) a.1 a.2)) fun t10 => W.ret t10
def m_are_apart (reaches_ : (List (Int × Int))) : W (Bool) :=
  W.bind (W.ret (srtK reaches_)) fun row_ => W.bind (compG (List.zip row_ (Z.cut row_ (some (1 : Int)) none)) (fun a => (fun one_ other_ => W.ret true) a.1 a.2) (fun a => (fun one_ other_ => W.ret (decide (one_.2 < other_.1))) a.1 a.2)) fun t18 => W.ret ((t18).all id)
def m_apart_shows_L1 (web_ : (List (P3 Int Str Int))) (places_ : (Dc (Int × Int) Int)) (want_ : (P4 Int Int Int Int)) (reaches_ : (Dc (Int × Int) (List (Int × Int)))) : W (Ctl Bool ((Dc (Int × Int) (List (Int × Int))))) :=
  W.bind (m_is_want web_ places_ want_) fun t9 => W.ite (!t9) (W.ret (Ctl.rt false)) (W.bind (W.opt (valM places_ (want_.a, want_.b))) fun t17 => W.bind (W.opt (valM places_ (want_.c, want_.d))) fun t23 => W.bind (W.ret (t17, t23)) fun reach_ => W.bind (sdApp reaches_ (want_.a, want_.c) reach_) fun reaches_ => W.ret (Ctl.nx reaches_))
def m_apart_shows (web_ : (List (P3 Int Str Int))) (wants_ : (List (P4 Int Int Int Int))) : W (Bool) :=
  W.bind (m_places_of web_) fun t1 => W.bind (W.ret t1) fun places_ => W.bind (W.ret ([] : (Dc (Int × Int) (List (Int × Int))))) fun reaches_ => W.bind (W.forC wants_ reaches_ (fun a s => m_apart_shows_L1 web_ places_ a s)) fun c => W.after c (fun s => (fun reaches_ => W.bind (compG (reaches_.map (·.1)) (fun _ => W.ret true) (fun hands_ => W.bind (W.opt (valM reaches_ hands_)) fun t48 => W.bind (m_are_apart t48) fun t50 => W.ret t50)) fun t57 => W.ret ((t57).all id)) s)
def m_law_spring_L1 (cell_ : Int) (figures_ : Int) (stir_ : Int) : W (Int × Int) :=
  W.guard (CPow (10 : Int) (18 : Int)) (W.bind (W.ite (decide ((if cell_ < 0 then -cell_ else cell_) ≥ ((10 : Int) ^ ((18 : Int)).toNat))) (W.guard (CPow (10 : Int) (60 : Int)) (W.guard (CMulW figures_ ((10 : Int) ^ ((60 : Int)).toNat)) (W.guard (CPow (10 : Int) (60 : Int)) (W.guard (0 < ((10 : Int) ^ ((60 : Int)).toNat)) (W.bind (W.ret ((figures_ * ((10 : Int) ^ ((60 : Int)).toNat)) + ((if cell_ < 0 then -cell_ else cell_) % ((10 : Int) ^ ((60 : Int)).toNat)))) fun figures_ => W.ret (figures_)))))) (W.ret (figures_))) (fun s => (fun figures_ => W.guard (CMulW stir_ (69069 : Int)) (W.bind (W.ret ((((stir_ * (69069 : Int)) + (cell_ % (2305843009213693921 : Int))) + (7 : Int)) % (2305843009213693951 : Int))) fun stir_ => W.ret ((figures_, stir_)))) s))
def m_law_spring (script_ : (List Int)) : W ((H3 Int Int Int)) :=
  W.bind (W.ret (0 : Int)) fun figures_ => W.bind (W.ret (88651 : Int)) fun stir_ => W.bind (W.forL (Z.cut script_ none (some (63 : Int))) (figures_, stir_) (fun a s => m_law_spring_L1 a s.1 s.2)) (fun s => (fun figures_ stir_ => W.ret (⟨figures_, stir_, (0 : Int)⟩ : (H3 Int Int Int))) s.1 s.2)
def m_law_draw (spring_ : (H3 Int Int Int)) (many_ : Int) : W (Int × (H3 Int Int Int)) :=
  W.ite (decide (spring_.a > (0 : Int))) (W.guard (0 < many_) (W.bind (W.ret (spring_.a % many_)) fun found_ => W.guard (CDivW spring_.a many_) (W.bind (W.ret ({ spring_ with a := (spring_.a / many_) } : (H3 Int Int Int))) fun spring_ => W.ret (found_, spring_)))) (W.bind (W.ret ({ spring_ with c := (spring_.c + (1 : Int)) } : (H3 Int Int Int))) fun spring_ => W.guard (CMulW spring_.b spring_.b) (W.bind (W.ret ((spring_.b * spring_.b) % (2305843009213693951 : Int))) fun stir_ => W.guard (CMulW (7919 : Int) spring_.c) (W.guard (CMulW ((7919 : Int) * spring_.c) spring_.b) (W.bind (W.ret ({ spring_ with b := (((stir_ + (((7919 : Int) * spring_.c) * spring_.b)) + (104729 : Int)) % (2305843009213693951 : Int)) } : (H3 Int Int Int))) fun spring_ => W.guard (CDivW spring_.b (65537 : Int)) (W.guard (0 < many_) (W.ret (((spring_.b / (65537 : Int)) % many_), spring_)))))))
def m_law_web_L1 (hands_ : Int) (first_ : Int) (room_ : Int) (base_ : Int) (kinds_ : (List Str)) (at_ : Int) (spring_ : (H3 Int Int Int)) (web_ : (List (P3 Int Str Int))) : W ((H3 Int Int Int) × (List (P3 Int Str Int))) :=
  W.bind2 (m_law_draw spring_ hands_) fun t59 spring_ => W.bind (W.ret ((first_ + t59) % (8 : Int))) fun hand_ => W.bind2 (m_law_draw spring_ ((kinds_).length : Int)) fun t63 spring_ => W.bind (W.opt (atI kinds_ t63)) fun t67 => W.bind (W.ret t67) fun kind_ => W.bind2 (m_law_draw spring_ room_) fun t69 spring_ => W.bind (apd web_ (⟨hand_, kind_, ((base_ + t69) % (20 : Int))⟩ : (P3 Int Str Int))) fun web_ => W.ret ((spring_, web_))
def m_law_web (spring_ : (H3 Int Int Int)) (most_ : Int) : W ((List (P3 Int Str Int)) × (H3 Int Int Int)) :=
  W.bind2 (m_law_draw spring_ (4 : Int)) fun t1 spring_ => W.bind (W.ret t1) fun shape_ => W.bind (W.opt (atI ([(31 : Int), (most_ + (1 : Int))] : (List Int)) (if (decide (shape_ = (3 : Int))) then (1 : Int) else 0))) fun t9 => W.bind2 (m_law_draw spring_ t9) fun t11 spring_ => W.bind (W.ret t11) fun size_ => W.bind2 (m_law_draw spring_ (8 : Int)) fun t15 spring_ => W.bind (W.ret ((1 : Int) + t15)) fun hands_ => W.bind2 (m_law_draw spring_ (8 : Int)) fun t19 spring_ => W.bind (W.ret t19) fun first_ => W.bind2 (m_law_draw spring_ (5 : Int)) fun t27 spring_ => W.bind (W.opt (atI ([(1 : Int), (2 : Int), (3 : Int), (5 : Int), (20 : Int)] : (List Int)) t27)) fun t31 => W.bind (W.ret t31) fun room_ => W.bind2 (m_law_draw spring_ (20 : Int)) fun t33 spring_ => W.bind (W.ret t33) fun base_ => W.bind (W.ret ([("load" : Str), ("store" : Str), ("swap" : Str)] : (List Str))) fun kinds_ => W.bind2 (m_law_draw spring_ (3 : Int)) fun t43 spring_ => W.bind (W.ite (decide (t43 = (1 : Int))) (W.bind (W.ret ([("load" : Str), ("load" : Str), ("load" : Str), ("load" : Str), ("store" : Str), ("swap" : Str)] : (List Str))) fun kinds_ => W.ret (kinds_)) (W.ret (kinds_))) (fun s => (fun kinds_ => W.bind (W.ret ([] : (List (P3 Int Str Int)))) fun web_ => W.guard (rngOk 0 size_) (W.bind (W.forL (rng 0 size_) (spring_, web_) (fun a s => m_law_web_L1 hands_ first_ room_ base_ kinds_ a s.1 s.2)) (fun s => (fun spring_ web_ => W.ret (web_, spring_)) s.1 s.2))) s)
def m_law_calls_L1 (hand_ : Int) (kind_ : Str) (cell_ : Int) (many_ : (List Int)) (found_ : (List (Int × Int))) : W ((List Int) × (List (Int × Int))) :=
  W.bind (W.opt (atI many_ hand_)) fun t14 => W.bind (apd found_ (hand_, t14)) fun found_ => W.bind (W.opt (atI many_ hand_)) fun t18 => W.bind (sti many_ hand_ (t18 + (1 : Int))) fun many_ => W.ret ((many_, found_))
def m_law_calls (web_ : (List (P3 Int Str Int))) : W ((List (Int × Int))) :=
  W.guard (repG ([(0 : Int)] : (List Int)) (8 : Int)) (W.bind (W.ret (repL ([(0 : Int)] : (List Int)) (8 : Int))) fun many_ => W.bind (W.ret ([] : (List (Int × Int)))) fun found_ => W.bind (W.forL web_ (many_, found_) (fun a s => m_law_calls_L1 a.a a.b a.c s.1 s.2)) (fun s => (fun many_ found_ => W.ret found_) s.1 s.2))
def m_law_meets (one_ : (P3 Int Str Int)) (other_ : (P3 Int Str Int)) : W (Bool) :=
  W.ite ((decide (one_.a = other_.a)) || (!decide (one_.c = other_.c))) (W.ret false) (W.ret ((!decide (one_.b = ("load" : Str))) || (!decide (other_.b = ("load" : Str)))))
def m_law_ends (calls_ : (List (Int × Int))) (note_ : (P4 Int Int Int Int)) : W ((Option (Int × Int))) :=
  W.bind (W.ret (note_.a, note_.b)) fun one_ => W.bind (W.ret (note_.c, note_.d)) fun other_ => W.bind (W.ite (decide (note_.a = note_.c)) (W.ret true) (W.guard (okD one_ ∧ okD calls_) (W.bind (W.ite (!inD one_ calls_) (W.ret true) (W.guard (okD other_ ∧ okD calls_) (W.ret (!inD other_ calls_)))) (fun t11 => W.ret t11)))) (fun t15 => W.ite t15 (W.ret (none : (Option (Int × Int)))) (W.guard (okD one_ ∧ okD calls_) (W.bind (W.opt (idxD one_ calls_)) fun t19 => W.guard (okD other_ ∧ okD calls_) (W.bind (W.opt (idxD other_ calls_)) fun t20 => W.ite (decide (t19 ≥ t20)) (W.ret (none : (Option (Int × Int)))) (W.guard (okD one_ ∧ okD calls_) (W.bind (W.opt (idxD one_ calls_)) fun t21 => W.guard (okD other_ ∧ okD calls_) (W.bind (W.opt (idxD other_ calls_)) fun t22 => W.ret (some (t21, t22)))))))))
def m_law_is_want (web_ : (List (P3 Int Str Int))) (calls_ : (List (Int × Int))) (note_ : (P4 Int Int Int Int)) : W (Bool) :=
  W.bind (m_law_ends calls_ note_) fun t1 => W.bind (W.ret t1) fun ends_ => W.guard (∀ b, ends_ = some b → toPy b ≠ .none) (W.bind (W.ite (ends_.isSome) (W.bind (W.opt ends_) fun t5 => W.bind (W.opt (atI web_ t5.1)) fun t8 => W.bind (W.opt ends_) fun t10 => W.bind (W.opt (atI web_ t10.2)) fun t13 => W.bind (m_law_meets t8 t13) fun t15 => W.ret t15) (W.ret false)) (fun t19 => W.ret t19))
def m_law_all_met_L1 (web_ : (List (P3 Int Str Int))) (j_ : Int) (to_ : (List (Option (Int × Int)))) (i_ : Int) : W (Ctl (Ctl Bool (Unit)) (Unit)) :=
  W.bind (W.opt (atI web_ i_)) fun t43 => W.bind (W.opt (atI web_ j_)) fun t45 => W.bind (m_law_meets t43 t45) fun t47 => W.ite t47 (W.bind (compG to_ (fun one_ => W.bind (W.opt one_) fun t53 => W.bind (W.ite (decide (t53.1 ≥ i_)) (W.bind (W.opt one_) fun t56 => W.bind (W.opt (atI web_ t56.1)) fun t59 => W.bind (W.opt (atI web_ i_)) fun t62 => W.ret (decide (t59.a = t62.a))) (W.ret false)) (fun t65 => W.ret t65)) (fun one_ => W.ret one_)) fun t72 => W.guard (okD t72 ∧ okD ([] : (List (Option (Int × Int))))) (W.ite (eqD t72 ([] : (List (Option (Int × Int))))) (W.ret (Ctl.rt (Ctl.rt false))) (W.ret (Ctl.nx ())))) (W.ret (Ctl.nx ()))
def m_law_all_met_L2 (web_ : (List (P3 Int Str Int))) (ends_ : (List (Option (Int × Int)))) (j_ : Int) : W (Ctl Bool (Unit)) :=
  W.bind (compG ends_ (fun one_ => W.bind (W.opt one_) fun t18 => W.bind (W.ite (decide (t18.2 ≤ j_)) (W.bind (W.opt one_) fun t21 => W.bind (W.opt (atI web_ t21.2)) fun t24 => W.bind (W.opt (atI web_ j_)) fun t27 => W.ret (decide (t24.a = t27.a))) (W.ret false)) (fun t30 => W.ret t30)) (fun one_ => W.ret one_)) fun t37 => W.bind (W.ret t37) fun to_ => W.guard (rngOk 0 j_) (W.bind (W.forC (rng 0 j_) () (fun a s => m_law_all_met_L1 web_ j_ to_ a)) fun c => W.after c (fun _ => W.ret (Ctl.nx ())))
def m_law_all_met (web_ : (List (P3 Int Str Int))) (calls_ : (List (Int × Int))) (told_ : (List (P4 Int Int Int Int))) : W (Bool) :=
  W.bind (compG told_ (fun note_ => W.ret true) (fun note_ => W.bind (m_law_ends calls_ note_) fun t3 => W.ret t3)) fun t10 => W.bind (W.ret t10) fun ends_ => W.guard (rngOk 0 ((web_).length : Int)) (W.bind (W.forC (rng 0 ((web_).length : Int)) () (fun a s => m_law_all_met_L2 web_ ends_ a)) fun c => W.after c (fun _ => W.ret true))
def m_law_counts_L1 (note_ : (P4 Int Int Int Int)) (found_ : (Dc (Int × Int) Int)) : W ((Dc (Int × Int) Int)) :=
  W.bind (putG found_ (note_.a, note_.c) (((valM found_ (note_.a, note_.c)).getD (0 : Int)) + (1 : Int))) fun found_ => W.ret (found_)
def m_law_counts (some_ : (List (P4 Int Int Int Int))) : W ((Dc (Int × Int) Int)) :=
  W.bind (W.ret ([] : (Dc (Int × Int) Int))) fun found_ => W.bind (W.forL some_ found_ (fun a s => m_law_counts_L1 a s)) (fun s => (fun found_ => W.ret found_) s)
def m_law_fewer_L1 (calls_ : (List (Int × Int))) (ones_ : (List Int)) (others_ : (List Int)) (again_ : Int) (spring_ : (H3 Int Int Int)) (found_ : (List (P4 Int Int Int Int))) : W ((H3 Int Int Int) × (List (P4 Int Int Int Int))) :=
  W.bind2 (m_law_draw spring_ ((ones_).length : Int)) fun t34 spring_ => W.bind (W.opt (atI ones_ t34)) fun t38 => W.bind (W.ret t38) fun one_ => W.bind2 (m_law_draw spring_ ((others_).length : Int)) fun t40 spring_ => W.bind (W.opt (atI others_ t40)) fun t44 => W.bind (W.ret t44) fun other_ => W.bind (W.ite (decide (one_ < other_)) (W.bind (W.opt (atI calls_ one_)) fun t46 => W.bind (W.opt (atI calls_ other_)) fun t48 => W.bind (apd found_ (⟨t46.1, t46.2, t48.1, t48.2⟩ : (P4 Int Int Int Int))) fun found_ => W.ret (found_)) (W.ret (found_))) (fun s => (fun found_ => W.ret ((spring_, found_))) s)
def m_law_fewer (spring_ : (H3 Int Int Int)) (calls_ : (List (Int × Int))) (hands_ : (Int × Int)) (many_ : Int) : W ((List (P4 Int Int Int Int)) × (H3 Int Int Int)) :=
  W.guard (rngOk 0 ((calls_).length : Int)) (W.bind (compG (rng 0 ((calls_).length : Int)) (fun at_ => W.bind (W.opt (atI calls_ at_)) fun t3 => W.ret (decide (t3.1 = hands_.1))) (fun at_ => W.ret at_)) fun t10 => W.bind (W.ret t10) fun ones_ => W.guard (rngOk 0 ((calls_).length : Int)) (W.bind (compG (rng 0 ((calls_).length : Int)) (fun at_ => W.bind (W.opt (atI calls_ at_)) fun t17 => W.ret (decide (t17.1 = hands_.2))) (fun at_ => W.ret at_)) fun t24 => W.bind (W.ret t24) fun others_ => W.bind (W.ret ([] : (List (P4 Int Int Int Int)))) fun found_ => W.guard (rngOk 0 many_) (W.bind (W.forL (rng 0 many_) (spring_, found_) (fun a s => m_law_fewer_L1 calls_ ones_ others_ a s.1 s.2)) (fun s => (fun spring_ found_ => W.ret (found_, spring_)) s.1 s.2))))
def m_law_one_unmet_L1 (web_ : (List (P3 Int Str Int))) (some_ : (List (P4 Int Int Int Int))) (want_ : (P4 Int Int Int Int)) : W (Ctl Bool (Unit)) :=
  W.bind (compG some_ (fun note_ => W.ret true) (fun note_ => W.bind (m_meets_want web_ note_ want_) fun t4 => W.ret t4)) fun t11 => W.ite (!((t11).any id)) (W.ret (Ctl.rt true)) (W.ret (Ctl.nx ()))
def m_law_one_unmet (web_ : (List (P3 Int Str Int))) (wants_ : (List (P4 Int Int Int Int))) (some_ : (List (P4 Int Int Int Int))) : W (Bool) :=
  W.bind (W.forC wants_ () (fun a s => m_law_one_unmet_L1 web_ some_ a)) fun c => W.after c (fun _ => W.ret false)
def m_law_L1 (calls_ : (List (Int × Int))) (handed_ : (List (P3 Int Str Int))) (told_ : (List (P4 Int Int Int Int))) (wants_ : (List (P4 Int Int Int Int))) (again_ : Int) (spring_ : (H3 Int Int Int)) : W (Ctl Bool ((H3 Int Int Int))) :=
  W.bind2 (m_law_draw spring_ ((told_).length : Int)) fun t96 spring_ => W.bind (W.opt (atI told_ t96)) fun t100 => W.bind (W.ret t100) fun at_ => W.bind (W.ret (at_.a, at_.c)) fun hands_ => W.bind (compG wants_ (fun want_ => W.ret ((decide (want_.a = hands_.1)) && (decide (want_.c = hands_.2)))) (fun want_ => W.ret want_)) fun t115 => W.bind (W.ret t115) fun these_ => W.bind2 (m_law_draw spring_ ((these_).length : Int)) fun t120 spring_ => W.bind (W.ret t120) fun begun_ => W.guard (((Z.cut these_ (some begun_) none)).length + ((Z.cut these_ none (some begun_))).length ≤ sizeLine) (W.bind (W.ret (Z.cut ((Z.cut these_ (some begun_) none) ++ (Z.cut these_ none (some begun_))) none (some (12 : Int)))) fun these_ => W.bind2 (m_law_fewer spring_ calls_ hands_ (((these_).length : Int) - (1 : Int))) fun t142 spring_ => W.bind (m_law_one_unmet handed_ these_ t142) fun t146 => W.ite (!t146) (W.ret (Ctl.rt false)) (W.ret (Ctl.nx spring_)))
def m_law (script_ : (List Int)) : W (Bool) :=
  W.bind (m_law_spring script_) fun t1 => W.bind (W.ret t1) fun spring_ => W.bind2 (m_law_web spring_ (100 : Int)) fun t5 spring_ => W.bind (W.ret t5) fun web_ => W.bind (m_law_calls web_) fun t9 => W.bind (W.ret t9) fun calls_ => W.bind (W.ret web_) fun handed_ => W.bind (m_strict_notes handed_) fun t19 => W.bind (W.ret t19) fun told_ => W.bind (m_wants_apart handed_) fun t25 => W.bind (W.ret t25) fun wants_ => W.bind (W.ite (!true) (W.ret true) (W.bind (W.ite (!true) (W.ret true) (W.guard (okD handed_ ∧ okD web_) (W.ret (!eqD handed_ web_)))) (fun t31 => W.ret t31))) (fun t35 => W.ite t35 (W.ret false) (W.bind (compG told_ (fun note_ => W.ret true) (fun note_ => W.bind (m_law_ends calls_ note_) fun t41 => W.guard (∀ b, t41 = some b → toPy b ≠ .none) (W.ret (t41.isSome)))) fun t48 => W.bind (W.ite (!((t48).all id)) (W.ret true) (W.guard ((told_).length < 4000) (W.ret (!decide (((ddK told_).length : Int) = ((told_).length : Int)))))) (fun t51 => W.ite t51 (W.ret false) (W.bind (m_law_all_met web_ calls_ told_) fun t55 => W.bind (W.ite (!t55) (W.ret true) (W.bind (compG wants_ (fun want_ => W.ret true) (fun want_ => W.bind (m_law_is_want web_ calls_ want_) fun t61 => W.ret t61)) fun t68 => W.ret (!((t68).all id)))) (fun t71 => W.ite t71 (W.ret false) (W.bind (m_law_counts told_) fun t75 => W.bind (m_law_counts wants_) fun t79 => W.bind (W.ite (!deqM t75 t79) (W.ret true) (W.bind (m_apart_shows handed_ wants_) fun t87 => W.ret (!decide (t87 = true)))) (fun t91 => W.ite t91 (W.ret false) (W.guard (CMulW ((1 : Int) + (if (4 : Int) < ((script_).length : Int) then (4 : Int) else ((script_).length : Int))) (if ((told_).length : Int) < (1 : Int) then ((told_).length : Int) else (1 : Int))) (W.guard (rngOk 0 (((1 : Int) + (if (4 : Int) < ((script_).length : Int) then (4 : Int) else ((script_).length : Int))) * (if ((told_).length : Int) < (1 : Int) then ((told_).length : Int) else (1 : Int)))) (W.bind (W.forC (rng 0 (((1 : Int) + (if (4 : Int) < ((script_).length : Int) then (4 : Int) else ((script_).length : Int))) * (if ((told_).length : Int) < (1 : Int) then ((told_).length : Int) else (1 : Int)))) spring_ (fun a s => m_law_L1 calls_ handed_ told_ wants_ a s)) fun c => W.after c (fun s => (fun spring_ => W.guard (okD handed_ ∧ okD web_) (W.ret (eqD handed_ web_))) s)))))))))))
end M

/-! # what meets -/
namespace M
open PySem L2 Z
def meetS (s t : P3 Int Str Int) : Bool := if (decide (s.a = t.a) || !decide (s.c = t.c)) = true then false else (!decide (s.b = ("load" : Str)) || !decide (t.b = ("load" : Str)))
theorem meets_wp {s t : P3 Int Str Int} {Φ : Bool → Prop} (k : Φ (meetS s t)) : (m_touches_meet s t).run Φ := by
  unfold m_touches_meet
  simp only [run_bind, run_rt, run_if]
  unfold meetS at k
  generalize decide (s.a = t.a) = p at k ⊢
  generalize decide (s.c = t.c) = q at k ⊢
  generalize decide (s.b = ("load" : Str)) = r at k ⊢
  generalize decide (t.b = ("load" : Str)) = u at k ⊢
  cases p <;> cases q <;> cases r <;> cases u <;> simpa using k
theorem law_meets_wp {s t : P3 Int Str Int} {Φ : Bool → Prop} (k : Φ (meetS s t)) : (m_law_meets s t).run Φ := meets_wp k
end M

/-! # the law's drawing: spring, draw, web -/
namespace M
open PySem L2 Z
abbrev Spr := H3 Int Int Int
def SpOk (B : Nat) (s : Spr) : Prop := 0 ≤ s.b ∧ s.b < 2305843009213693951 ∧ 0 ≤ s.c ∧ s.c ≤ B
theorem SpOk.mo {B C : Nat} {s : Spr} (h : SpOk B s) (hc : B ≤ C) : SpOk C s := ⟨h.1, h.2.1, h.2.2.1, by have := h.2.2.2; omega⟩
theorem nat_lt_pow {x : Int} {n : Nat} (h0 : 0 ≤ x) (h : x < (2 ^ n : Nat)) : x.natAbs < 2 ^ n := by omega
theorem draw_wp {B : Nat} {s : Spr} {many : Int} {Φ : Int × Spr → Prop} (hs : SpOk B s) (hB : B < 2 ^ 40) (h0 : 0 < many) (hm : many < 2 ^ 100)
    (k : ∀ x s', 0 ≤ x → x < many → SpOk (B + 1) s' → Φ (x, s')) : (m_law_draw s many).run Φ := by
  obtain ⟨f, t, n⟩ := s
  obtain ⟨ht0, ht, hn0, hn⟩ := hs
  dsimp only at ht0 ht hn0 hn
  have hmn : many.natAbs < 2 ^ 100 := by omega
  have cd : ∀ x : Int, CDivW x many := fun x => wide_div h0 hmn (by decide) (by decide)
  unfold m_law_draw
  simp only [run_bind, run_ite, run_guard, run_rt, decide_eq_true_eq, decide_eq_false_iff_not]
  refine ⟨fun hf => ⟨h0, cd _, ?_⟩, fun hf => ⟨?_, ?_, ?_, ?_, h0, ?_⟩⟩
  · exact k _ _ (Int.emod_nonneg _ (by omega)) (Int.emod_lt_of_pos _ h0) ⟨ht0, ht, hn0, by show n ≤ ((B + 1 : Nat) : Int); omega⟩
  · exact wide_mul (a := 61) (b := 61) (by omega) (by omega) (by decide) (by decide) (by decide)
  · exact wide_mul (a := 13) (b := 64) (by decide) (by omega) (by decide) (by decide) (by decide)
  · exact wide_mul (a := 77) (b := 61) (by omega) (by omega) (by decide) (by decide) (by decide)
  · exact wide_div (b := 17) (by decide) (by decide) (by decide) (by decide)
  · have p0 : (0 : Int) < 2305843009213693951 := by decide
    exact k _ _ (Int.emod_nonneg _ (by omega)) (Int.emod_lt_of_pos _ h0) ⟨Int.emod_nonneg _ (by omega), Int.emod_lt_of_pos _ p0, by show 0 ≤ n + 1; omega, by show n + 1 ≤ ((B + 1 : Nat) : Int); omega⟩
theorem ten60 : ((10 : Int) ^ ((60 : Int)).toNat) = 1000000000000000000000000000000000000000000000000000000000000 := by decide +kernel
theorem cpow60 : CPow (10 : Int) (60 : Int) := by unfold CPow; decide
theorem cpow18 : CPow (10 : Int) (18 : Int) := by unfold CPow; decide
theorem spring_wp {ns : List Int} {Φ : Spr → Prop} (hl : ns.length ≤ 63) (k : ∀ s, SpOk 0 s → Φ s) : (m_law_spring ns).run Φ := by
  unfold m_law_spring
  simp only [run_bind, run_rt]
  rw [cut_to (by decide)]
  refine forL_wp (fun i s => 0 ≤ s.1 ∧ s.1 < ((2 ^ (200 * i) : Nat) : Int) ∧ 0 ≤ s.2 ∧ s.2 < 2305843009213693951) ⟨by decide, by decide, by decide, by decide⟩ ?_ ?_
  · rintro i x ⟨f, t⟩ hx ⟨h1, h2, h3, h4⟩
    have hi : i < 63 := by
      have := (List.getElem?_eq_some_iff.mp hx).1
      rw [List.length_take] at this
      omega
    have p0 : (0 : Int) < 2305843009213693951 := by decide
    have hk : (2 : Nat) ^ (200 * (i + 1)) = 2 ^ (200 * i) * 2 ^ 200 := by rw [← Nat.pow_add]; congr 1
    have hbig : (2 : Nat) ^ (200 * i) ≤ 2 ^ 13000 := Nat.pow_le_pow_right (by decide) (by omega)
    have mono : (2 : Nat) ^ (200 * i) ≤ 2 ^ (200 * (i + 1)) := Nat.pow_le_pow_right (by decide) (by omega)
    dsimp only at h1 h2 h3 h4
    unfold m_law_spring_L1
    simp only [run_bind, run_ite, run_guard, run_rt, ten60]
    have ht : CMulW t 69069 := wide_mul (a := 61) (b := 17) (by omega) (by decide) (by decide) (by decide) (by decide)
    refine ⟨cpow18, fun _ => ⟨cpow60, ?_, cpow60, by decide, ht, ?_⟩, fun _ => ⟨ht, ?_⟩⟩
    · have hf : f.natAbs < 2 ^ 13000 := by omega
      exact wide_mul (a := 13000) (b := 200) hf (by decide +kernel) (by decide) (by decide) (by decide)
    · generalize hy : (if x < 0 then -x else x) = y
      have q0 : (0 : Int) < 1000000000000000000000000000000000000000000000000000000000000 := by decide
      have r1 := Int.emod_nonneg y (show (1000000000000000000000000000000000000000000000000000000000000 : Int) ≠ 0 by decide)
      have r2 := Int.emod_lt_of_pos y q0
      refine ⟨by omega, ?_, Int.emod_nonneg _ (by omega), Int.emod_lt_of_pos _ p0⟩
      rw [hk]
      have c : ((2 ^ 200 : Nat) : Int) = 1606938044258990275541962092341162602522202993782792835301376 := by decide +kernel
      generalize hA : (2 : Nat) ^ (200 * i) = A at h2
      rw [Int.natCast_mul, c]
      have : (f + 1) * 1606938044258990275541962092341162602522202993782792835301376 ≤ (A : Int) * 1606938044258990275541962092341162602522202993782792835301376 := Int.mul_le_mul_of_nonneg_right (by omega) (by decide)
      omega
    · exact ⟨h1, by omega, Int.emod_nonneg _ (by omega), Int.emod_lt_of_pos _ p0⟩
  · rintro ⟨f, t⟩ ⟨h1, h2, h3, h4⟩
    exact k _ ⟨h3, h4, Int.le_refl _, Int.le_refl _⟩
/-- a web that may be handed in -/
structure ToOk (t : P3 Int Str Int) : Prop where
  h0 : 0 ≤ t.a
  h8 : t.a < 8
  kd : t.b = "load" ∨ t.b = "store" ∨ t.b = "swap"
  c0 : 0 ≤ t.c
  c20 : t.c < 20
def WebOk (web : List (P3 Int Str Int)) : Prop := (∀ t ∈ web, ToOk t) ∧ web.length ≤ 300

theorem str_lay (s : String) (h : PyData.strOk (s : Str) = true) : Lay.ok (s : Str) := h
theorem to_lay {t : P3 Int Str Int} (h : ToOk t) : Lay.ok t := by
  refine ⟨trivial, ?_, trivial⟩
  rcases h.kd with e | e | e <;> rw [e] <;> exact str_lay _ (by decide +kernel)
end M

/-! # general ways -/
namespace M
open PySem L2 Z
theorem rng_mem {a b x : Int} : x ∈ rng a b ↔ a ≤ x ∧ x < b := by
  unfold rng
  rw [List.mem_map]
  constructor
  · rintro ⟨k, hk, rfl⟩
    rw [List.mem_range] at hk
    omega
  · rintro ⟨h1, h2⟩
    exact ⟨(x - a).toNat, by rw [List.mem_range]; omega, by omega⟩
theorem rng_pw (a b : Int) : (rng a b).Pairwise (· < ·) := by
  unfold rng
  rw [List.pairwise_map]
  exact List.pairwise_lt_range.imp fun h => by omega
theorem take_snocN {α : Type} {xs : List α} {i : Nat} {x : α} (h : xs[i]? = some x) : xs.take (i + 1) = xs.take i ++ [x] := by
  rw [List.take_add_one, h]
  rfl
theorem at_head {α : Type} {x : α} {l : List α} : atI (x :: l) (0 : Int) = some x := atI_nat (j := 0) rfl
theorem at_last {α : Type} {x : α} {l : List α} : atI (l ++ [x]) (-(1 : Int)) = some x := atI_last l x
/-- a loop that is left at last -/
theorem while_wp {S ρ : Type} (Inv : S → Prop) (μ : S → Nat) {s : S} {f : S → W (Ctl ρ S)} {Φ : Ctl ρ S → Prop} (h0 : Inv s)
    (step : ∀ s, Inv s → (f s).run (CtlP (fun s' => Inv s' ∧ μ s' < μ s) (fun s' => Φ (.nx s')) (fun r => Φ (.rt r)))) : (W.whileL s f).run Φ := by
  have key : ∀ m s, Inv s → μ s < m → (W.whileN m s f).run Φ := by
    intro m
    induction m with
    | zero => intro s _ h; omega
    | succ m ih =>
      intro s hs hm
      show (W.bind (f s) _).run Φ
      rw [run_bind]
      refine run_mono (step s hs) fun c hc => ?_
      cases c with
      | nx s' => exact ih s' hc.1 (by have := hc.2; omega)
      | bk s' => exact hc
      | rt r => exact hc
  exact ⟨μ s + 1, key _ s h0 (Nat.lt_succ_self _)⟩
/-- a loop that is left where a test holds -/
theorem forC_any {α ρ : Type} {xs : List α} {f : α → Unit → W (Ctl ρ Unit)} (t : α → Bool) (r : ρ) {Φ : Ctl ρ Unit → Prop} (hf : ∀ x ∈ xs, ∀ Ψ : Ctl ρ Unit → Prop, Ψ (if t x = true then .rt r else .nx ()) → (f x ()).run Ψ)
    (k : Φ (if xs.any t = true then .rt r else .nx ())) : (W.forC xs () f).run Φ := by
  induction xs with
  | nil => exact k
  | cons x xs ih =>
    show (W.bind (f x ()) _).run Φ
    rw [run_bind]
    refine hf x List.mem_cons_self _ ?_
    rw [List.any_cons] at k
    by_cases c : t x = true
    · rw [if_pos c]
      rw [c, Bool.true_or, if_pos rfl] at k
      exact k
    · rw [if_neg c]
      rw [Bool.not_eq_true] at c
      rw [c, Bool.false_or] at k
      exact ih (fun y hy => hf y (List.mem_cons_of_mem _ hy)) k
theorem popI_wp {α : Type} {xs : List α} {i : Nat} {Φ : α × List α → Prop} (h : i < xs.length) (hl : xs.length ≤ 100000) (k : Φ (xs[i], xs.eraseIdx i)) : (popI xs (i : Int)).run Φ :=
  ⟨⟨by omega, by omega⟩, i, by rw [ixN_nat' (by omega) (by omega), Int.toNat_natCast], xs[i], List.getElem?_eq_getElem h, k⟩
theorem mnD_cases (xs : List Int) (d : Int) : (xs = [] ∧ mnD xs d = d) ∨ (mnD xs d ∈ xs ∧ ∀ y ∈ xs, mnD xs d ≤ y) := by
  cases xs with
  | nil => exact .inl ⟨rfl, rfl⟩
  | cons x xs => exact .inr (mnF xs x)
theorem mxD_cases (xs : List Int) (d : Int) : (xs = [] ∧ mxD xs d = d) ∨ (mxD xs d ∈ xs ∧ ∀ y ∈ xs, y ≤ mxD xs d) := by
  cases xs with
  | nil => exact .inl ⟨rfl, rfl⟩
  | cons x xs => exact .inr (mxF xs x)
/-- a comprehension that carries a state -/
theorem compSG_wp {α β S : Type} {xs : List α} {s : S} {f : α → S → W (Option β × S)} (Inv : Nat → S → List β → Prop) {Φ : List β × S → Prop} (hl : xs.length ≤ sizeLine) (h0 : Inv 0 s [])
    (step : ∀ i x s acc, xs[i]? = some x → Inv i s acc → (f x s).run fun r => match r.1 with | none => Inv (i + 1) r.2 acc | some y => Inv (i + 1) r.2 (acc ++ [y])) (k : ∀ s acc, Inv xs.length s acc → Φ (acc, s)) : (compSG xs s f).run Φ := by
  refine ⟨hl, ?_⟩
  have key : ∀ (ys : List α) (i : Nat) (s : S) (acc : List β), (∀ j x, ys[j]? = some x → xs[i + j]? = some x) → i + ys.length = xs.length → Inv i s acc → (compS ys acc s f).run Φ := by
    intro ys
    induction ys with
    | nil =>
      intro i s acc _ e h
      exact k s acc (by rw [← e]; exact h)
    | cons y ys ih =>
      intro i s acc hx e h
      show (W.bind (f y s) _).run Φ
      rw [run_bind]
      refine run_mono (step i y s acc (hx 0 y rfl) h) fun r hr => ?_
      obtain ⟨o, s'⟩ := r
      have hx' : ∀ j x, ys[j]? = some x → xs[i + 1 + j]? = some x := fun j x q => by rw [Nat.add_right_comm]; exact hx (j + 1) x q
      have e' : i + 1 + ys.length = xs.length := by rw [← e]; simp; omega
      cases o with
      | none => exact ih (i + 1) s' acc hx' e' hr
      | some z => exact ih (i + 1) s' (acc ++ [z]) hx' e' hr
  exact key xs 0 s [] (fun j x q => by rw [Nat.zero_add]; exact q) (by omega) h0
end M

/-! # webs: steps by places -/
namespace M
open PySem L2 Z
abbrev Tch := P3 Int Str Int
def gW (web : List Tch) (i : Nat) : Tch := web.getD i ⟨0, "", 0⟩
def stS (s t : Tch) : Bool := decide (s.a = t.a) || meetS s t
def sW (web : List Tch) (i j : Nat) : Bool := stS (gW web i) (gW web j)
section
variable {web : List Tch} {x y i j : Nat}
theorem gW_get (h : x < web.length) : web[x]? = some (gW web x) := by
  unfold gW
  rw [List.getD_eq_getElem?_getD, List.getElem?_eq_getElem h]
  rfl
theorem gW_at (h : x < web.length) : atI web (x : Int) = some (gW web x) := atI_nat (gW_get h)
theorem isok_small {a b : Nat} (h : b ≤ 100000) : rngOk (a : Int) (b : Int) ∨ 100000 < a := by
  by_cases c : a ≤ 100000
  · exact .inl ⟨by omega, by omega, by omega, by omega⟩
  · exact .inr (by omega)
end
end M

/-! # the names of touches -/
namespace M
open PySem L2 Z
def cnt (web : List (P3 Int Str Int)) (h : Int) : Nat := (web.filter fun t => decide (t.a = h)).length
theorem cnt_nil (h : Int) : cnt [] h = 0 := rfl
theorem cnt_snoc (web : List (P3 Int Str Int)) (t : P3 Int Str Int) (h : Int) : cnt (web ++ [t]) h = cnt web h + (if t.a = h then 1 else 0) := by
  unfold cnt
  rw [List.filter_append, List.length_append]
  by_cases c : t.a = h
  · simp [c]
  · simp [c]
def nmF : List (P3 Int Str Int) → List (Int × Int)
  | [] => []
  | t :: r => nmF r ++ [(t.a, (cnt r.reverse t.a : Int))]
/-- the names of a web's touches -/
def nmS (web : List (P3 Int Str Int)) : List (Int × Int) := nmF web.reverse
theorem nmS_nil : nmS [] = [] := rfl
theorem nmS_snoc (web : List (P3 Int Str Int)) (t : P3 Int Str Int) : nmS (web ++ [t]) = nmS web ++ [(t.a, (cnt web t.a : Int))] := by
  unfold nmS
  simp [nmF]
theorem nmS_len (web : List (P3 Int Str Int)) : (nmS web).length = web.length := by
  unfold nmS
  rw [← List.length_reverse (as := web)]
  generalize web.reverse = r
  induction r with
  | nil => rfl
  | cons t r ih => simp [nmF, ih]
theorem take_snoc {α : Type} {xs : List α} {i : Nat} {x : α} (h : xs[i]? = some x) : xs.take (i + 1) = xs.take i ++ [x] := by
  rw [List.take_add_one, h]
  rfl
theorem nmS_dropLast (web : List (P3 Int Str Int)) : nmS web.dropLast = (nmS web).dropLast := by
  rcases List.eq_nil_or_concat web with rfl | ⟨r, t, rfl⟩
  · rfl
  · rw [List.concat_eq_append, List.dropLast_concat, nmS_snoc, List.dropLast_concat]
theorem names_wp {web : List (P3 Int Str Int)} {Φ : List (Int × Int) → Prop} (hw : ∀ t ∈ web, ToOk t) (hl : web.length ≤ 1000) (k : Φ (nmS web)) : (m_names web).run Φ := by
  unfold m_names
  simp only [run_bind, run_rt, run_guard]
  refine ⟨⟨by decide, by decide, by decide⟩, ?_⟩
  refine forL_wp (fun i s => s.1.length = 8 ∧ (∀ h : Nat, h < 8 → s.1[h]? = some (cnt (web.take i) h : Int)) ∧ s.2 = nmS (web.take i)) ?_ ?_ ?_
  · refine ⟨by decide, fun h hh => ?_, rfl⟩
    have : h = 0 ∨ h = 1 ∨ h = 2 ∨ h = 3 ∨ h = 4 ∨ h = 5 ∨ h = 6 ∨ h = 7 := by omega
    rcases this with rfl | rfl | rfl | rfl | rfl | rfl | rfl | rfl <;> rfl
  · rintro i t ⟨many, found⟩ hx ⟨q1, q2, q3⟩
    dsimp only at q1 q2 q3
    have hil : i < web.length := (List.getElem?_eq_some_iff.mp hx).1
    have ht := hw t (List.mem_of_getElem? hx)
    have h0 := ht.h0
    have h8 := ht.h8
    obtain ⟨j, hj⟩ : ∃ j : Nat, t.a = j := ⟨t.a.toNat, by omega⟩
    have g := q2 j (by omega)
    have ga : atI many t.a = some (cnt (web.take i) j : Int) := by rw [hj]; exact atI_nat g
    unfold m_names_L1
    simp only [run_bind, run_rt, run_opt, ga, Option.some.injEq, exists_eq_left']
    have hfl : found.length ≤ 100000 := by
      rw [q3, nmS_len, List.length_take]
      omega
    refine apd_wp hfl (sti_wp h0 (by rw [q1]; omega) ?_)
    refine ⟨by simp [q1], fun h hh => ?_, ?_⟩
    · rw [take_snoc hx, cnt_snoc]
      have ej : t.a.toNat = j := by omega
      rw [ej, List.getElem?_set]
      by_cases c : j = h
      · subst c
        rw [if_pos rfl, if_pos (by omega), if_pos hj]
        simp
      · rw [if_neg c, q2 h hh, if_neg (by omega)]
        simp
    · rw [take_snoc hx, nmS_snoc, q3, hj]
  · rintro ⟨many, found⟩ ⟨q1, q2, q3⟩
    dsimp only at q3
    rw [List.take_length] at q3
    dsimp only
    rw [q3]
    exact k
end M

/-! # dicts as lists of pairs -/
namespace M
open PySem L2 Z
section
variable {κ α : Type} [DecidableEq κ]
theorem valM_cons {k j : κ} {a : α} {m : Dc κ α} : valM ((k, a) :: m) j = if k = j then some a else valM m j := by
  unfold valM
  rw [List.find?_cons]
  by_cases c : k = j <;> simp [c]
theorem valM_map {k j : κ} {a : α} : ∀ {m : Dc κ α}, valM (m.map fun p => if p.1 = k then (p.1, a) else p) j = (valM m j).map fun x => if j = k then a else x
  | [] => rfl
  | (q, b) :: m => by
    have ih := valM_map (k := k) (j := j) (a := a) (m := m)
    rw [List.map_cons]
    by_cases c : q = k
    · rw [if_pos c, valM_cons, valM_cons]
      by_cases d : q = j
      · rw [if_pos d, if_pos d, Option.map_some, if_pos (d.symm.trans c)]
      · rw [if_neg d, if_neg d, ih]
    · rw [if_neg c, valM_cons, valM_cons]
      by_cases d : q = j
      · rw [if_pos d, if_pos d, Option.map_some, if_neg (fun e => c (d.trans e))]
      · rw [if_neg d, if_neg d, ih]
theorem valM_snoc {k j : κ} {a : α} : ∀ {m : Dc κ α}, valM m k = none → valM (m ++ [(k, a)]) j = if j = k then some a else valM m j
  | [], _ => by
    rw [List.nil_append, valM_cons]
    by_cases c : k = j
    · rw [if_pos c, if_pos c.symm]
    · rw [if_neg c, if_neg (fun e => c e.symm)]
  | (q, b) :: m, h => by
    rw [valM_cons] at h
    by_cases c : q = k
    · rw [if_pos c] at h; cases h
    · rw [if_neg c] at h
      rw [List.cons_append, valM_cons, valM_cons, valM_snoc h]
      by_cases d : q = j
      · rw [if_pos d, if_pos d, if_neg (fun e => c (d.trans e))]
      · rw [if_neg d, if_neg d]
theorem anyM {k : κ} : ∀ {m : Dc κ α}, (m.any fun p => decide (p.1 = k)) = (valM m k).isSome
  | [] => rfl
  | (q, b) :: m => by
    rw [List.any_cons, anyM, valM_cons]
    by_cases c : q = k
    · simp [c]
    · simp [c]
theorem valM_put {k j : κ} {a : α} {m : Dc κ α} : valM (putM m k a) j = if j = k then some a else valM m j := by
  unfold putM
  rw [anyM]
  cases e : valM m k with
  | none => exact valM_snoc e
  | some b =>
    show valM (m.map fun p => if p.1 = k then (p.1, a) else p) j = _
    rw [valM_map]
    by_cases c : j = k
    · subst c
      rw [e, if_pos rfl, Option.map_some, if_pos rfl]
    · rw [if_neg c]
      cases valM m j with
      | none => rfl
      | some x => simp [c]
theorem putM_len {k : κ} {a : α} {m : Dc κ α} : (putM m k a).length ≤ m.length + 1 := by
  unfold putM
  split
  · rw [List.length_map]; omega
  · rw [List.length_append]; exact Nat.le_refl _
theorem putG_wp {k : κ} {a : α} {m : Dc κ α} {Φ : Dc κ α → Prop} (h : m.length ≤ 100000) (q : Φ (putM m k a)) : (putG m k a).run Φ := ⟨small' h, q⟩
end
end M

/-! # names are unlike; places by names -/
namespace M
open PySem L2 Z
section
variable {web : List Tch} {h : Int} {i j : Nat}
def nmN (web : List Tch) (j : Nat) : Int × Int := ((gW web j).a, (cnt (web.take j) (gW web j).a : Int))
theorem nmS_get : ∀ (n : Nat) (web : List Tch), web.length = n → ∀ j, j < n → (nmS web)[j]? = some (nmN web j) := by
  intro n
  induction n with
  | zero => intro web _ j h; omega
  | succ n ih =>
    intro web hl j hj
    rcases List.eq_nil_or_concat web with rfl | ⟨r, t, rfl⟩
    · simp at hl
    · rw [List.concat_eq_append] at hl ⊢
      have hr : r.length = n := by simpa using hl
      rw [nmS_snoc]
      by_cases c : j < n
      · rw [List.getElem?_append_left (by rw [nmS_len]; omega), ih r hr j c]
        unfold nmN gW
        rw [List.getD_eq_getElem?_getD, List.getD_eq_getElem?_getD, List.getElem?_append_left (by omega), List.take_append_of_le_length (by omega)]
      · have e : j = r.length := by omega
        subst e
        rw [List.getElem?_append_right (by rw [nmS_len]; exact Nat.le_refl _), nmS_len]
        unfold nmN gW
        rw [List.getD_eq_getElem?_getD, List.getElem?_append_right (Nat.le_refl _), List.take_append_of_le_length (Nat.le_refl _)]
        simp
theorem nmS_at (hj : j < web.length) : atI (nmS web) (j : Int) = some (nmN web j) := atI_nat (nmS_get _ web rfl j hj)
theorem cnt_step (hj : j < web.length) : cnt (web.take (j + 1)) h = cnt (web.take j) h + if (gW web j).a = h then 1 else 0 := by
  rw [take_snocN (gW_get hj), cnt_snoc]
theorem cnt_mono (hi : (gW web i).a = h) : ∀ {j}, i < j → j ≤ web.length → cnt (web.take i) h + 1 ≤ cnt (web.take j) h
  | 0, a, _ => by omega
  | j + 1, a, b => by
    rw [cnt_step (by omega)]
    by_cases c : i = j
    · subst c
      rw [if_pos hi]; exact Nat.le_refl _
    · have := cnt_mono hi (j := j) (by omega) (by omega)
      omega
theorem nm_ne (hij : i < j) (hj : j < web.length) : nmN web i ≠ nmN web j := fun e => by
  unfold nmN at e
  have e1 := congrArg Prod.fst e
  have e2 := congrArg Prod.snd e
  dsimp only at e1 e2
  have := cnt_mono (web := web) e1 hij (by omega)
  rw [e1] at e2
  omega
theorem nm_inj (hi : i < web.length) (hj : j < web.length) (e : nmN web i = nmN web j) : i = j := by
  rcases Nat.lt_trichotomy i j with c | c | c
  · exact absurd e (nm_ne c hj)
  · exact c
  · exact absurd e.symm (nm_ne c hi)
/-- the last place of a hand below a place -/
def li (web : List Tch) (h : Int) : Nat → Option Nat
  | 0 => none
  | j + 1 => if (gW web j).a = h then some j else li web h j
theorem li_none : ∀ {j}, j ≤ web.length → li web h j = none → cnt (web.take j) h = 0
  | 0, _, _ => rfl
  | j + 1, hj, e => by
    unfold li at e
    split at e
    · cases e
    · rename_i c
      rw [cnt_step (by omega), if_neg c, li_none (by omega) e]
theorem li_some : ∀ {j}, j ≤ web.length → li web h j = some i → i < j ∧ (gW web i).a = h ∧ cnt (web.take i) h + 1 = cnt (web.take j) h
  | 0, _, e => by cases e
  | j + 1, hj, e => by
    unfold li at e
    split at e
    · rename_i c
      cases e
      exact ⟨Nat.lt_succ_self _, c, by rw [cnt_step (by omega), if_pos c]⟩
    · rename_i c
      obtain ⟨h1, h2, h3⟩ := li_some (by omega) e
      exact ⟨by omega, h2, by rw [cnt_step (by omega), if_neg c]; exact h3⟩
theorem idx_nm (hi : i < web.length) : idxD (nmN web i) (nmS web) = some (i : Int) := by
  have hil : i < (nmS web).length := by rw [nmS_len]; exact hi
  have get : ∀ m (hm : m < (nmS web).length), (nmS web)[m] = nmN web m := fun m hm => by
    have := nmS_get _ web rfl m (by rw [nmS_len] at hm; exact hm)
    rw [List.getElem?_eq_getElem hm] at this
    exact Option.some.inj this
  unfold idxD
  have : (nmS web).findIdx? (fun y => eqD y (nmN web i)) = some i := by
    rw [List.findIdx?_eq_some_iff_getElem]
    refine ⟨hil, by rw [get, eqD_self], fun m hm => ?_⟩
    rw [get, eqD_dec, decide_eq_false (nm_ne hm hi)]
    decide
  rw [this]
  rfl
theorem places_wp {Φ : Dc (Int × Int) Int → Prop} (hw : ∀ t ∈ web, ToOk t) (hl : web.length ≤ 1000) (k : ∀ m : Dc (Int × Int) Int, (∀ i, i < web.length → valM m (nmN web i) = some (i : Int)) → Φ m) : (m_places_of web).run Φ := by
  unfold m_places_of
  simp only [run_bind, run_rt, run_guard]
  refine names_wp hw hl ⟨⟨by decide, by decide, by omega, by omega⟩, ?_⟩
  refine forL_wp (fun t q => q.length ≤ t ∧ ∀ i, i < t → valM q (nmN web i) = some (i : Int)) ⟨Nat.le_refl _, fun i h => by omega⟩ ?_ ?_
  · rintro t x q hx ⟨q1, q2⟩
    obtain ⟨ht, rfl⟩ := rng_get hx
    have htl : t < web.length := by omega
    rw [Int.zero_add]
    unfold m_places_of_L1
    simp only [run_bind, run_opt, run_rt, nmS_at htl, Option.some.injEq, exists_eq_left']
    refine putG_wp (by omega) ⟨Nat.le_trans putM_len (by omega), fun i hi => ?_⟩
    rw [valM_put]
    by_cases c : i = t
    · subst c
      rw [if_pos rfl]
    · rw [if_neg (fun e => c (nm_inj (by omega) htl e)), q2 i (by omega)]
  · rintro q ⟨_, q2⟩
    rw [rng_len, Int.sub_zero, Int.toNat_natCast] at q2
    exact k q q2
end
end M

/-! # the law's step and calls -/
namespace M
open PySem L2 Z
theorem isz {n : Nat} (h : n ≤ 10000000) : n ≤ sizeLine := Nat.le_trans h (by decide)
section
variable {web : List Tch} {ends : List (Int × Int)} {T : List (List Int)} {n j : Nat}
theorem calls_wp {Φ : List (Int × Int) → Prop} (hw : ∀ t ∈ web, ToOk t) (hl : web.length ≤ 1000) (k : Φ (nmS web)) : (m_law_calls web).run Φ := names_wp hw hl k
end
end M

/-! # wants by names (no error is caught) -/
namespace M
open PySem L2 Z
section
variable {web : List Tch} {key : Int × Int} {i j : Nat}
abbrev NT4 := P4 Int Int Int Int
/-- the place of a name -/
def plcT (web : List Tch) (key : Int × Int) (t : Nat) : Option Nat := (List.range t).find? fun i => decide (nmN web i = key)
def plc (web : List Tch) (key : Int × Int) : Option Nat := plcT web key web.length
def ci (o : Option Nat) : Option Int := o.map fun i : Nat => (i : Int)
theorem plcT_succ {t : Nat} : plcT web key (t + 1) = match plcT web key t with | some i => some i | none => if nmN web t = key then some t else none := by
  unfold plcT
  rw [List.range_succ, List.find?_append]
  cases (List.range t).find? fun i => decide (nmN web i = key) with
  | some i => rfl
  | none =>
    by_cases c : nmN web t = key <;> simp [c]
theorem plcT_some {t i : Nat} (h : plcT web key t = some i) : i < t ∧ nmN web i = key := by
  unfold plcT at h
  have h1 := List.mem_of_find?_eq_some h
  have h2 := List.find?_some h
  exact ⟨List.mem_range.mp h1, by simpa using h2⟩
theorem plcT_none {t : Nat} (h : plcT web key t = none) : ∀ i, i < t → nmN web i ≠ key := by
  unfold plcT at h
  intro i hi e
  have := List.find?_eq_none.mp h i (List.mem_range.mpr hi)
  simp [e] at this
theorem places_wp2 {Φ : Dc (Int × Int) Int → Prop} (hw : ∀ t ∈ web, ToOk t) (hl : web.length ≤ 1000) (k : ∀ m : Dc (Int × Int) Int, (∀ key, valM m key = ci (plc web key)) → Φ m) : (m_places_of web).run Φ := by
  unfold m_places_of
  simp only [run_bind, run_rt, run_guard]
  refine names_wp hw hl ⟨⟨by decide, by decide, by omega, by omega⟩, ?_⟩
  refine forL_wp (fun t q => q.length ≤ t ∧ ∀ key, valM q key = ci (plcT web key t)) ⟨Nat.le_refl _, fun key => rfl⟩ ?_ ?_
  · rintro t x q hx ⟨q1, q2⟩
    obtain ⟨ht, rfl⟩ := rng_get hx
    have htl : t < web.length := by omega
    rw [Int.zero_add]
    unfold m_places_of_L1
    simp only [run_bind, run_opt, run_rt, nmS_at htl, Option.some.injEq, exists_eq_left']
    refine putG_wp (by omega) ⟨Nat.le_trans putM_len (by omega), fun key => ?_⟩
    rw [valM_put, plcT_succ, q2]
    by_cases c : key = nmN web t
    · rw [if_pos c]
      cases e : plcT web key t with
      | some i =>
        obtain ⟨h1, h2⟩ := plcT_some e
        exact absurd (h2.trans c) (nm_ne h1 htl)
      | none =>
        dsimp only
        rw [if_pos c.symm]; rfl
    · rw [if_neg c]
      cases e : plcT web key t with
      | some i => rfl
      | none =>
        dsimp only
        rw [if_neg (fun z => c z.symm)]
  · rintro q ⟨_, q2⟩
    rw [rng_len, Int.sub_zero, Int.toNat_natCast] at q2
    exact k q q2
theorem plc_nm (h : i < web.length) : plc web (nmN web i) = some i := by
  cases e : plc web (nmN web i) with
  | none => exact absurd rfl (plcT_none e i h)
  | some j =>
    obtain ⟨h1, h2⟩ := plcT_some e
    rw [nm_inj h1 h h2]
theorem plc_of {n : Nat} {key : Int × Int} (h : plc web key = some n) : n < web.length ∧ key = nmN web n := by
  obtain ⟨h1, h2⟩ := plcT_some h
  exact ⟨h1, h2.symm⟩
/-- the ends of a note, if it is one -/
def endN (web : List Tch) (t : NT4) : Option (Nat × Nat) := if t.a = t.c then none else match plc web (t.a, t.b), plc web (t.c, t.d) with
  | some i, some j => if i < j then some (i, j) else none
  | _, _ => none
def wantN (web : List Tch) (t : NT4) : Bool := match plc web (t.a, t.b), plc web (t.c, t.d) with
  | some i, some j => if i < j then meetS (gW web i) (gW web j) else false
  | _, _ => false
theorem wantN_eq {t : NT4} : wantN web t = match endN web t with | some (i, j) => meetS (gW web i) (gW web j) | none => false := by
  unfold wantN endN
  cases e1 : plc web (t.a, t.b) with
  | none => by_cases c : t.a = t.c <;> simp [c]
  | some i =>
    cases e2 : plc web (t.c, t.d) with
    | none => by_cases c : t.a = t.c <;> simp [c]
    | some j =>
      dsimp only
      by_cases c : t.a = t.c
      · rw [if_pos c]
        obtain ⟨_, h1⟩ := plcT_some e1
        obtain ⟨_, h2⟩ := plcT_some e2
        have a1 : (gW web i).a = t.a := congrArg Prod.fst h1
        have a2 : (gW web j).a = t.c := congrArg Prod.fst h2
        have : meetS (gW web i) (gW web j) = false := by
          unfold meetS
          rw [a1, a2, c]
          simp
        rw [this]
        split <;> rfl
      · rw [if_neg c]
        by_cases d : i < j
        · rw [if_pos d, if_pos d]
        · rw [if_neg d, if_neg d]
/-- as it goes where the note is one -/
theorem endsX_wp {m : Dc (Int × Int) Int} {t : NT4} {Φ : Int × Int → Prop} (hm : ∀ key, valM m key = ci (plc web key)) {i j : Nat} (he : endN web t = some (i, j)) (k : Φ ((i : Int), (j : Int))) : (m_ends_of m t).run Φ := by
  unfold endN at he
  unfold m_ends_of
  simp only [run_bind, run_rt, run_if, run_guard, run_opt, hm, decide_eq_true_eq]
  by_cases c : t.a = t.c
  · rw [if_pos c] at he; cases he
  · rw [if_neg c] at he ⊢
    refine ⟨nn, ?_⟩
    cases e1 : plc web (t.a, t.b) with
    | none => rw [e1] at he; cases he
    | some i' =>
      rw [if_neg (by simp [ci])]
      refine ⟨nn, ?_⟩
      cases e2 : plc web (t.c, t.d) with
      | none => rw [e1, e2] at he; cases he
      | some j' =>
        rw [e1, e2] at he
        dsimp only at he
        rw [if_neg (by simp [ci])]
        refine ⟨(i' : Int), rfl, (j' : Int), rfl, ?_⟩
        by_cases d : i' < j'
        · rw [if_neg (by omega)]
          rw [if_pos d] at he
          have := Option.some.inj he
          cases this
          exact ⟨_, rfl, _, rfl, k⟩
        · rw [if_neg d] at he; cases he
theorem want_wp {m : Dc (Int × Int) Int} {t : NT4} {Φ : Bool → Prop} (hm : ∀ key, valM m key = ci (plc web key)) (k : Φ (wantN web t)) : (m_is_want web m t).run Φ := by
  unfold wantN at k
  unfold m_is_want
  simp only [run_bind, run_rt, run_if, run_guard, run_opt, hm]
  refine ⟨nn, ?_⟩
  cases e1 : plc web (t.a, t.b) with
  | none =>
    rw [e1] at k
    rw [if_pos (by rfl)]
    simpa using k
  | some i =>
    rw [if_neg (by simp [ci])]
    refine ⟨nn, ?_⟩
    cases e2 : plc web (t.c, t.d) with
    | none =>
      rw [e1, e2] at k
      rw [if_pos (by rfl)]
      simpa using k
    | some j =>
      rw [e1, e2] at k
      dsimp only at k
      rw [if_neg (by simp [ci])]
      refine ⟨(i : Int), rfl, (j : Int), rfl, ?_⟩
      have hi := (plcT_some e1).1
      have hj := (plcT_some e2).1
      by_cases d : i < j
      · rw [if_pos d] at k
        rw [if_neg (by simp; omega)]
        exact ⟨_, rfl, _, gW_at hi, _, rfl, _, gW_at hj, meets_wp k⟩
      · rw [if_neg d] at k
        rw [if_pos (by simp; omega)]
        exact k
def dueN (note want : NT4) : Bool := decide (note.a = want.a) && (decide (note.c = want.c) && (decide (note.b ≥ want.b) && decide (note.d ≤ want.d)))
theorem meetsX_wp {note want : NT4} {Φ : Bool → Prop} (hw : ∀ t ∈ web, ToOk t) (hl : web.length ≤ 300) {i j : Nat} (he : endN web note = some (i, j)) (hn : wantN web want = true) (k : Φ (dueN note want)) : (m_meets_want web note want).run Φ := by
  unfold m_meets_want
  simp only [run_bind, run_rt, run_if]
  refine places_wp2 hw (by omega) fun m hm => endsX_wp hm he (want_wp hm ?_)
  rw [hn]
  simp only [Bool.not_true, Bool.false_eq_true, if_false]
  unfold dueN at k
  by_cases d : note.a = want.a
  · by_cases e : note.c = want.c
    · rw [decide_eq_true d, decide_eq_true e] at k ⊢
      exact k
    · rw [decide_eq_false e, Bool.false_and, Bool.and_false] at k
      rw [decide_eq_false e]
      simpa using k
  · rw [decide_eq_false d, Bool.false_and] at k
    rw [decide_eq_false d]
    simpa using k
/-- a note by two places -/
theorem endN_nt {i j : Nat} (hij : i < j) (hj : j < web.length) (hne : (gW web i).a ≠ (gW web j).a) {t : NT4} (e1 : (t.a, t.b) = nmN web i) (e2 : (t.c, t.d) = nmN web j) : endN web t = some (i, j) := by
  unfold endN
  have a1 : t.a = (gW web i).a := congrArg Prod.fst e1
  have a2 : t.c = (gW web j).a := congrArg Prod.fst e2
  rw [if_neg (by rw [a1, a2]; exact hne), e1, e2, plc_nm (by omega), plc_nm hj]
  dsimp only
  rw [if_pos hij]
theorem wantN_nt {i j : Nat} (hij : i < j) (hj : j < web.length) {t : NT4} (e1 : (t.a, t.b) = nmN web i) (e2 : (t.c, t.d) = nmN web j) : wantN web t = meetS (gW web i) (gW web j) := by
  unfold wantN
  rw [e1, e2, plc_nm (by omega), plc_nm hj]
  dsimp only
  rw [if_pos hij]
end
end M

/-! # strict notes -/
namespace M
open PySem L2 Z
theorem rng_snoc {j : Nat} : rng 0 ((j + 1 : Nat) : Int) = rng 0 (j : Int) ++ [(j : Int)] := by
  unfold rng
  rw [Int.sub_zero, Int.sub_zero, Int.toNat_natCast, Int.toNat_natCast, List.range_succ, List.map_append]
  simp
section
variable {web : List Tch} {h o : Int} {j n : Nat}
/-- the places of a hand below a place -/
def hpI (web : List Tch) (h : Int) (j : Nat) : List Int := (rng 0 (j : Int)).filter fun i => decide ((gW web i.toNat).a = h)
def cand (web : List Tch) (h : Int) (j : Nat) : List Int := (hpI web h j).filter fun i => meetS (gW web i.toNat) (gW web j)
def lte (web : List Tch) (h : Int) (j : Nat) : Int := mxD (cand web h j) (-1)
def lst (web : List Tch) (h : Int) (j : Nat) : Int := (hpI web h j).getLastD (-1)
theorem hpI_mem {x : Int} : x ∈ hpI web h j ↔ 0 ≤ x ∧ x < j ∧ (gW web x.toNat).a = h := by
  unfold hpI
  rw [List.mem_filter, rng_mem, decide_eq_true_eq, and_assoc]
theorem hpI_len : (hpI web h j).length ≤ j := by
  refine Nat.le_trans (List.length_filter_le _ _) ?_
  rw [rng_len]; omega
theorem hpI_snoc : hpI web h (j + 1) = hpI web h j ++ (if (gW web j).a = h then [(j : Int)] else []) := by
  unfold hpI
  rw [rng_snoc, List.filter_append]
  congr 1
  by_cases c : (gW web j).a = h <;> simp [c]
theorem lst_of (hne : hpI web h j ≠ []) : atI (hpI web h j) (-(1 : Int)) = some (lst web h j) ∧ lst web h j ∈ hpI web h j ∧ ∀ x ∈ hpI web h j, x ≤ lst web h j := by
  have pw : (hpI web h j).Pairwise (· < ·) := (rng_pw _ _).filter _
  unfold lst
  rcases List.eq_nil_or_concat (hpI web h j) with e | ⟨l, x, e⟩
  · exact absurd e hne
  · rw [List.concat_eq_append] at e
    rw [e] at pw ⊢
    have e2 : (l ++ [x]).getLastD (-1) = x := by simp
    rw [e2]
    refine ⟨at_last, by simp, fun y hy => ?_⟩
    rcases List.mem_append.mp hy with q | q
    · have := (List.pairwise_append.mp pw).2.2 y q x (by simp)
      omega
    · rw [List.mem_singleton.mp q]; exact Int.le_refl _
theorem cand_mem {x : Int} (hx : x ∈ cand web h j) : x ∈ hpI web h j := (List.mem_filter.mp hx).1
theorem cand_len : (cand web h j).length ≤ j := Nat.le_trans (List.length_filter_le _ _) hpI_len
theorem lte_cases : (cand web h j = [] ∧ lte web h j = -1) ∨ (lte web h j ∈ cand web h j ∧ ∀ y ∈ cand web h j, y ≤ lte web h j) := mxD_cases _ _
def nmAt (web : List Tch) (x : Int) : Int × Int := (nmS web).getD x.toNat (0, 0)
theorem nmAt_at {x : Int} (h0 : 0 ≤ x) (hx : x < web.length) : atI (nmS web) x = some (nmAt web x) := by
  refine atI_get' h0 ?_
  unfold nmAt
  rw [List.getD_eq_getElem?_getD, List.getElem?_eq_getElem (by rw [nmS_len]; omega)]
  rfl
def nte (web : List Tch) (l i : Int) (j : Nat) : NT4 × NT4 := (⟨(nmAt web l).1, (nmAt web l).2, (nmAt web j).1, (nmAt web j).2⟩, ⟨(nmAt web i).1, (nmAt web i).2, (nmAt web j).1, (nmAt web j).2⟩)
/-- what is found from the front, and the last place met -/
def gr (web : List Tch) (h o : Int) : Nat → List (NT4 × NT4) × Int
  | 0 => ([], -1)
  | n + 1 => if (gW web n).a = o ∧ lte web h n > (gr web h o n).2 then ((gr web h o n).1 ++ [nte web (lst web h n) (lte web h n) n], (n : Int)) else gr web h o n
theorem gr_len : ∀ n, (gr web h o n).1.length ≤ n
  | 0 => Nat.le_refl _
  | n + 1 => by
    have := gr_len n
    unfold gr
    split
    · simp; omega
    · omega
theorem gr_met : ∀ n : Nat, -1 ≤ (gr web h o n).2 ∧ (gr web h o n).2 < n
  | 0 => ⟨Int.le_refl _, by show (-1 : Int) < 0; decide⟩
  | n + 1 => by
    have := gr_met n
    unfold gr
    split
    · exact ⟨by show (-1 : Int) ≤ (n : Int); omega, by show (n : Int) < ((n + 1 : Nat) : Int); omega⟩
    · omega
theorem found_wp {Φ : List (NT4 × NT4) → Prop} (hl : web.length ≤ 300) (hne : h ≠ o) (k : Φ (gr web h o web.length).1) : (m_found_between web (nmS web) h o).run Φ := by
  unfold m_found_between
  simp only [run_bind, run_rt, run_guard]
  refine ⟨⟨by decide, by decide, by omega, by omega⟩, ?_⟩
  refine forL_wp (fun t s => s = ((gr web h o t).1, (gr web h o t).2, hpI web h t)) rfl ?_ ?_
  · rintro t x s hx rfl
    obtain ⟨ht, rfl⟩ := rng_get hx
    have htl : t < web.length := by omega
    rw [Int.zero_add]
    unfold m_found_between_L1
    simp only [run_bind, run_opt, gW_at htl, Option.some.injEq, exists_eq_left', run_if, run_rt, decide_eq_true_eq]
    by_cases c : (gW web t).a = h
    · rw [if_pos c]
      have e : gr web h o (t + 1) = gr web h o t := by
        show (if _ then _ else _) = _
        rw [if_neg (fun z => hne (c.symm.trans z.1))]
      rw [e, hpI_snoc, if_pos c]
      exact apd_wp (by have := hpI_len (web := web) (h := h) (j := t); omega) rfl
    · rw [if_neg c]
      rw [hpI_snoc, if_neg c, List.append_nil]
      by_cases d : (gW web t).a = o
      · rw [if_pos d]
        refine compG_wp (fun i => meetS (gW web i.toNat) (gW web t)) (fun i => i) (small (by have := hpI_len (web := web) (h := h) (j := t); omega)) (fun y hy Ψ q => ?_) (fun _ _ _ Ψ q => by exact q) ?_
        · obtain ⟨h1, h2, h3⟩ := hpI_mem.mp hy
          obtain ⟨i, rfl⟩ : ∃ i : Nat, y = i := ⟨y.toNat, by omega⟩
          simp only [run_bind, run_opt, run_rt, gW_at (show i < web.length by omega), gW_at htl, Option.some.injEq, exists_eq_left']
          exact meets_wp q
        · rw [List.map_id']
          show (if lte web h t > (gr web h o t).2 then _ else _)
          by_cases e : lte web h t > (gr web h o t).2
          · rw [if_pos e]
            have hm := gr_met (web := web) (h := h) (o := o) t
            obtain ⟨q1, q2⟩ : lte web h t ∈ cand web h t ∧ ∀ y ∈ cand web h t, y ≤ lte web h t := by
              rcases lte_cases (web := web) (h := h) (j := t) with ⟨_, z⟩ | z
              · omega
              · exact z
            have q3 := cand_mem q1
            obtain ⟨l1, l2, _⟩ := lst_of (List.ne_nil_of_mem q3)
            obtain ⟨w1, w2, _⟩ := hpI_mem.mp l2
            obtain ⟨v1, v2, _⟩ := hpI_mem.mp q3
            refine ⟨_, l1, _, nmAt_at w1 (by omega), _, nmAt_at (x := (t : Int)) (by omega) (by omega), _, nmAt_at (x := lte web h t) v1 (by omega), _, nmAt_at (x := (t : Int)) (by omega) (by omega), ?_⟩
            have e2 : gr web h o (t + 1) = ((gr web h o t).1 ++ [nte web (lst web h t) (lte web h t) t], (t : Int)) := by
              show (if _ then _ else _) = _
              rw [if_pos ⟨d, e⟩]
            rw [e2]
            exact apd_wp (by have := gr_len (web := web) (h := h) (o := o) t; omega) rfl
          · rw [if_neg e]
            have e2 : gr web h o (t + 1) = gr web h o t := by
              show (if _ then _ else _) = _
              rw [if_neg (fun z => e z.2)]
            rw [e2]
      · rw [if_neg d]
        have e2 : gr web h o (t + 1) = gr web h o t := by
          show (if _ then _ else _) = _
          rw [if_neg (fun z => d z.1)]
        rw [e2]
  · rintro s rfl
    rw [rng_len, Int.sub_zero, Int.toNat_natCast]
    exact k
/-- the fronts of a hand with the first others; of the first hands -/
def A1 (web : List Tch) (h : Int) : Nat → List (NT4 × NT4)
  | 0 => []
  | t + 1 => A1 web h t ++ if (t : Int) = h then [] else (gr web h t web.length).1
def A2 (web : List Tch) : Nat → List (NT4 × NT4)
  | 0 => []
  | t + 1 => A2 web t ++ A1 web t 8
theorem A1_len : ∀ t, (A1 web h t).length ≤ web.length * t
  | 0 => Nat.zero_le _
  | t + 1 => by
    have := A1_len t
    have := gr_len (web := web) (h := h) (o := (t : Int)) web.length
    rw [A1, List.length_append, Nat.mul_succ]
    split
    · simp; omega
    · omega
theorem A2_len : ∀ t, (A2 web t).length ≤ web.length * 8 * t
  | 0 => Nat.zero_le _
  | t + 1 => by
    have := A2_len t
    have := A1_len (web := web) (h := (t : Int)) 8
    rw [A2, List.length_append, Nat.mul_succ]
    omega
theorem two_loops {F : Int → Int → List (NT4 × NT4) → W (List (NT4 × NT4))} {Φ : List (NT4 × NT4) → Prop} (hl : web.length ≤ 300)
    (hF : ∀ (h o : Int) (found : List (NT4 × NT4)) (Ψ : List (NT4 × NT4) → Prop), found.length ≤ 50000 → Ψ (found ++ if o = h then [] else (gr web h o web.length).1) → (F h o found).run Ψ)
    (k : Φ (A2 web 8)) : (W.forL (rng 0 (8 : Int)) [] fun a s => W.guard (rngOk 0 (8 : Int)) (W.bind (W.forL (rng 0 (8 : Int)) s fun a' s' => F a a' s') fun s => W.ret s)).run Φ := by
  refine forL_wp (fun t s => s = A2 web t) rfl ?_ (fun s e => by rw [e]; exact k)
  rintro t x s hx rfl
  obtain ⟨ht, rfl⟩ := rng_get hx
  have ht8 : t < 8 := by omega
  rw [Int.zero_add]
  simp only [run_guard, run_bind, run_rt]
  refine ⟨⟨by decide, by decide, by decide, by decide⟩, ?_⟩
  refine forL_wp (fun m s => s = A2 web t ++ A1 web t m) (by simp [A1]) ?_ (fun s e => by rw [e]; rfl)
  rintro m y s hy rfl
  obtain ⟨hm, rfl⟩ := rng_get hy
  have hm8 : m < 8 := by omega
  rw [Int.zero_add]
  refine hF _ _ _ _ ?_ ?_
  · have a1 := A1_len (web := web) (h := (t : Int)) m
    have a2 := A2_len (web := web) t
    have b1 : web.length * m ≤ 300 * 8 := Nat.mul_le_mul hl (by omega)
    have b2 : web.length * 8 * t ≤ 300 * 8 * 8 := Nat.mul_le_mul (by omega) (by omega)
    rw [List.length_append]
    omega
  · rw [A1, List.append_assoc]
theorem A2_len8 (hl : web.length ≤ 300) : (A2 web 8).length ≤ 19200 := Nat.le_trans (A2_len 8) (by omega)
theorem all_wp {Φ : List (NT4 × NT4) → Prop} (hw : ∀ t ∈ web, ToOk t) (hl : web.length ≤ 300) (k : Φ (A2 web 8)) : (m_all_found web).run Φ := by
  unfold m_all_found
  simp only [run_bind, run_rt, run_guard]
  refine names_wp hw (by omega) ⟨⟨by decide, by decide, by decide, by decide⟩, ?_⟩
  refine two_loops (F := fun a a' s' => m_all_found_L1 web (nmS web) a a' s') hl (fun h o found Ψ hf q => ?_) k
  unfold m_all_found_L1
  simp only [run_bind, run_rt, run_if]
  by_cases c : o = h
  · rw [if_pos c, List.append_nil] at q
    rw [decide_eq_true c]
    simpa using q
  · rw [if_neg c] at q
    rw [decide_eq_false c]
    simp only [Bool.not_false, if_true]
    exact found_wp hl (fun z => c z.symm) ⟨small (by have := gr_len (web := web) (h := h) (o := o) web.length; omega), q⟩
theorem map_wp {l : List (NT4 × NT4)} {g : NT4 → NT4 → NT4} {Φ : List NT4 → Prop} (hl : l.length ≤ 100000) (k : Φ (l.map fun p => g p.1 p.2)) : (compG l (fun a => (fun note_ want_ => W.ret true) a.1 a.2) (fun a => (fun note_ want_ => W.ret (g note_ want_)) a.1 a.2)).run Φ := by
  refine compG_wp (fun _ => true) (fun p => g p.1 p.2) (small hl) (fun _ _ Ψ q => by exact q) (fun _ _ _ Ψ q => by exact q) ?_
  rw [List.filter_eq_self.mpr fun _ _ => rfl]
  exact k
theorem strict_wp {Φ : List NT4 → Prop} (hw : ∀ t ∈ web, ToOk t) (hl : web.length ≤ 300) (k : Φ (srtK ((A2 web 8).map fun p => p.1))) : (m_strict_notes web).run Φ := by
  unfold m_strict_notes
  simp only [run_bind, run_rt]
  exact all_wp hw hl (map_wp (g := fun a _ => a) (by have := A2_len8 hl; omega) k)
theorem apart_wp {Φ : List NT4 → Prop} (hw : ∀ t ∈ web, ToOk t) (hl : web.length ≤ 300) (k : Φ ((A2 web 8).map fun p => p.2)) : (m_wants_apart web).run Φ := by
  unfold m_wants_apart
  simp only [run_bind, run_rt]
  exact all_wp hw hl (map_wp (g := fun _ b => b) (by have := A2_len8 hl; omega) k)
end
end M

/-! # d.setdefault(k, []): what a key holds (from FirstN) -/
namespace M
open PySem L2 Z
theorem valM_setd' {κ α : Type} [DecidableEq κ] {m : Dc κ (List α)} {k j : κ} : (valM (setd m k) j).getD [] = (valM m j).getD [] := by
  unfold setd
  split
  · rfl
  · rename_i c
    have : valM m k = none := by
      cases h : valM m k with
      | none => rfl
      | some x => rw [h] at c; exact absurd rfl c
    rw [valM_snoc this]
    by_cases e : j = k
    · subst e
      rw [if_pos rfl, this]; rfl
    · rw [if_neg e]
theorem setd_len {κ α : Type} [DecidableEq κ] {m : Dc κ (List α)} {k : κ} : (setd m k).length ≤ m.length + 1 := by
  unfold setd
  split
  · omega
  · rw [List.length_append]; exact Nat.le_refl _
theorem sd_len {κ α : Type} [DecidableEq κ] {m : Dc κ (List α)} {k : κ} {v : List α} : (putM (setd m k) k v).length ≤ m.length + 1 := by
  unfold setd
  split
  · rename_i c
    unfold putM
    rw [anyM, if_pos c, List.length_map]
    omega
  · rename_i c
    have h : valM m k = none := by
      cases h : valM m k with
      | none => rfl
      | some x => rw [h] at c; exact absurd rfl c
    unfold putM
    rw [anyM, valM_snoc h, if_pos rfl, if_pos (show (some ([] : List α)).isSome = true from rfl), List.length_map, List.length_append]
    exact Nat.le_refl _
end M

/-! # wants apart: intervals none of which meets another -/
namespace M
open PySem L2 Z
/-- a relation of neighbours -/
def Adj {α : Type} (f : α → α → Prop) : List α → Prop
  | x :: y :: l => f x y ∧ Adj f (y :: l)
  | _ => True
theorem adj_ix {α : Type} {f : α → α → Prop} : ∀ {l : List α}, Adj f l ↔ ∀ i x y, l[i]? = some x → l[i + 1]? = some y → f x y
  | [] => ⟨fun _ i x y h => by simp at h, fun _ => trivial⟩
  | [a] => ⟨fun _ i x y h h' => by simp at h', fun _ => trivial⟩
  | a :: b :: l => by
    refine ⟨fun h i x y hx hy => ?_, fun h => ⟨h 0 a b rfl rfl, adj_ix.mpr fun i x y hx hy => h (i + 1) x y hx hy⟩⟩
    cases i with
    | zero => cases hx; cases hy; exact h.1
    | succ i => exact adj_ix.mp h.2 i x y hx hy
theorem adj_zip {α : Type} {g : α → α → Bool} : ∀ {l : List α}, (((l.zip (l.drop 1)).map fun p => g p.1 p.2).all id = true) ↔ Adj (fun x y => g x y = true) l
  | [] => ⟨fun _ => trivial, fun _ => rfl⟩
  | [a] => ⟨fun _ => trivial, fun _ => rfl⟩
  | a :: b :: l => by
    have ih := adj_zip (g := g) (l := b :: l)
    rw [List.drop_succ_cons, List.drop_zero] at ih ⊢
    rw [List.zip_cons_cons, List.map_cons, List.all_cons, Bool.and_eq_true]
    exact and_congr Iff.rfl ih
/-! ## pairs -/
def apB (x y : Int × Int) : Prop := x.2 < y.1 ∨ y.2 < x.1
theorem apB_symm {x y : Int × Int} (h : apB x y) : apB y x := Or.symm h
theorem leP {x y : Int × Int} (h : leK x y = true) : x.1 ≤ y.1 := by
  obtain ⟨a, b⟩ := x
  obtain ⟨c, d⟩ := y
  unfold leK at h
  simp only [Ktup.key, lexL, Bool.not_eq_true'] at h
  dsimp only
  by_cases e : c < a
  · simp [e] at h
    have := h.1; omega
  · omega
theorem adj_ap : ∀ {l : List (Int × Int)}, (∀ x ∈ l, x.1 < x.2) → Adj (fun x y => decide (x.2 < y.1) = true) l → l.Pairwise (fun x y => x.2 < y.1)
  | [], _, _ => .nil
  | [a], _, _ => List.pairwise_singleton _ _
  | a :: b :: l, hv, h => by
    have ih := adj_ap (l := b :: l) (fun x hx => hv x (List.mem_cons_of_mem _ hx)) h.2
    refine List.pairwise_cons.mpr ⟨fun z hz => ?_, ih⟩
    have hab : a.2 < b.1 := of_decide_eq_true h.1
    rcases List.mem_cons.mp hz with e | hz
    · rw [e]; exact hab
    · have := (List.pairwise_cons.mp ih).1 z hz
      have := hv b (by simp)
      omega
theorem ap_adj : ∀ {l : List (Int × Int)}, (∀ x ∈ l, x.1 < x.2) → l.Pairwise (fun x y => leK x y = true) → l.Pairwise apB → Adj (fun x y => decide (x.2 < y.1) = true) l
  | [], _, _, _ => trivial
  | [a], _, _, _ => trivial
  | a :: b :: l, hv, hs, h => by
    refine ⟨decide_eq_true ?_, ap_adj (fun x hx => hv x (List.mem_cons_of_mem _ hx)) (List.pairwise_cons.mp hs).2 (List.pairwise_cons.mp h).2⟩
    have h1 := leP ((List.pairwise_cons.mp hs).1 b List.mem_cons_self)
    have h2 := hv b (by simp)
    rcases (List.pairwise_cons.mp h).1 b List.mem_cons_self with c | c
    · exact c
    · omega
theorem are_wp {xs : List (Int × Int)} {Φ : Bool → Prop} (hl : xs.length ≤ 10000000) (hv : ∀ x ∈ xs, x.1 < x.2) (k : ∀ b : Bool, (b = true ↔ xs.Pairwise apB) → Φ b) : (m_are_apart xs).run Φ := by
  unfold m_are_apart
  simp only [run_bind, run_rt]
  have hp := srtK_perm xs
  have hs := srtK_srt xs
  have hv' : ∀ x ∈ srtK xs, x.1 < x.2 := fun x hx => hv x (hp.mem_iff.mp hx)
  rw [cut_from (by decide)]
  refine compG_wp (fun _ => true) (fun a => decide (a.1.2 < a.2.1)) (isz ?_) (fun _ _ Ψ q => by exact q) (fun _ _ _ Ψ q => by exact q) ?_
  · rw [List.length_zip, hp.length_eq]
    exact Nat.le_trans (Nat.min_le_left _ _) hl
  · rw [show ∀ {α : Type} (l : List α), l.filter (fun _ => true) = l from fun l => List.filter_eq_self.mpr fun _ _ => rfl]
    refine k _ ?_
    show (((srtK xs).zip ((srtK xs).drop 1)).map fun a => decide (a.1.2 < a.2.1)).all id = true ↔ _
    rw [adj_zip (g := fun x y : Int × Int => decide (x.2 < y.1)), ← hp.pairwise_iff (R := apB) (fun {x y} => apB_symm)]
    exact ⟨fun h => (adj_ap hv' h).imp fun h => Or.inl h, fun h => ap_adj hv' hs h⟩
/-! ## rows: hand, other, second place, first place -/
def sameR (x y : NT4) : Prop := x.a = y.a ∧ x.b = y.b
instance {x y : NT4} : Decidable (sameR x y) := by unfold sameR; infer_instance
def apR (x y : NT4) : Prop := sameR x y → x.c < y.d ∨ y.c < x.d
theorem apR_symm {x y : NT4} (h : apR x y) : apR y x := fun e => Or.symm (h ⟨e.1.symm, e.2.symm⟩)
theorem leR {x y : NT4} (h : leK x y = true) : x.a < y.a ∨ (x.a = y.a ∧ (x.b < y.b ∨ (x.b = y.b ∧ x.c ≤ y.c))) := by
  obtain ⟨a, b, c, d⟩ := x
  obtain ⟨a', b', c', d'⟩ := y
  unfold leK at h
  simp only [Ktup.key, lexL, Bool.not_eq_true'] at h
  dsimp only
  by_cases e1 : a' < a
  · simp [e1] at h
    have := h.1; omega
  · by_cases e2 : a < a'
    · exact .inl e2
    · have : a = a' := by omega
      subst this
      refine .inr ⟨rfl, ?_⟩
      by_cases f1 : b' < b
      · simp [f1] at h
        have := h.1; omega
      · by_cases f2 : b < b'
        · exact .inl f2
        · have : b = b' := by omega
          subst this
          refine .inr ⟨rfl, ?_⟩
          by_cases g1 : c' < c
          · simp [g1] at h
            have := h.1; omega
          · omega
def okRow (l : List NT4) : Prop := (∀ x ∈ l, x.d < x.c) ∧ ∀ x ∈ l, ∀ y ∈ l, sameR x y → x.c ≠ y.d
def adR (x y : NT4) : Prop := ¬ (sameR y x ∧ y.d < x.c)
theorem adj_apR : ∀ {l : List NT4}, okRow l → l.Pairwise (fun x y => leK x y = true) → Adj adR l → l.Pairwise (fun x y => sameR x y → x.c < y.d)
  | [], _, _, _ => .nil
  | [a], _, _, _ => List.pairwise_singleton _ _
  | a :: b :: l, hv, hs, h => by
    have ih := adj_apR (l := b :: l) ⟨fun x hx => hv.1 x (List.mem_cons_of_mem _ hx), fun x hx y hy => hv.2 x (List.mem_cons_of_mem _ hx) y (List.mem_cons_of_mem _ hy)⟩ (List.pairwise_cons.mp hs).2 h.2
    have hab : sameR a b → a.c < b.d := fun e => by
      have h1 := h.1
      have h2 := hv.2 a (by simp) b (by simp) e
      unfold adR at h1
      have h3 : ¬ b.d < a.c := fun q => h1 ⟨⟨e.1.symm, e.2.symm⟩, q⟩
      omega
    refine List.pairwise_cons.mpr ⟨fun z hz => ?_, ih⟩
    rcases List.mem_cons.mp hz with e | hz
    · rw [e]; exact hab
    · intro e
      have l1 := leR ((List.pairwise_cons.mp hs).1 b List.mem_cons_self)
      have l2 := leR ((List.pairwise_cons.mp (List.pairwise_cons.mp hs).2).1 z hz)
      obtain ⟨e1, e2⟩ := e
      have sa : sameR a b := ⟨by omega, by omega⟩
      have sb : sameR b z := ⟨by have := sa.1; omega, by have := sa.2; omega⟩
      have := (List.pairwise_cons.mp ih).1 z hz sb
      have := hv.1 b (by simp)
      have := hab sa
      omega
theorem apR_adj : ∀ {l : List NT4}, okRow l → l.Pairwise (fun x y => leK x y = true) → l.Pairwise apR → Adj adR l
  | [], _, _, _ => trivial
  | [a], _, _, _ => trivial
  | a :: b :: l, hv, hs, h => by
    refine ⟨fun q => ?_, apR_adj (l := b :: l) ⟨fun x hx => hv.1 x (List.mem_cons_of_mem _ hx), fun x hx y hy => hv.2 x (List.mem_cons_of_mem _ hx) y (List.mem_cons_of_mem _ hy)⟩ (List.pairwise_cons.mp hs).2 (List.pairwise_cons.mp h).2⟩
    obtain ⟨⟨q1, q2⟩, q3⟩ := q
    have l1 := leR ((List.pairwise_cons.mp hs).1 b List.mem_cons_self)
    have h1 := hv.1 a (by simp)
    have h2 := hv.1 b (by simp)
    rcases (List.pairwise_cons.mp h).1 b List.mem_cons_self ⟨q1.symm, q2.symm⟩ with c | c <;> omega
/-! ## the two judges -/
section
variable {web : List Tch} {ws : List NT4}
def pz (o : Option Nat) : Int := (o.getD 0 : Nat)
def rchN (web : List Tch) (t : NT4) : Int × Int := (pz (plc web (t.a, t.b)), pz (plc web (t.c, t.d)))
def apW (web : List Tch) (s t : NT4) : Prop := (s.a, s.c) = (t.a, t.c) → apB (rchN web s) (rchN web t)
def apartS (web : List Tch) (ws : List NT4) : Prop := (∀ t ∈ ws, wantN web t = true) ∧ ws.Pairwise (apW web)
def rsN (web : List Tch) (ws : List NT4) (key : Int × Int) : List (Int × Int) := (ws.filter fun t => decide ((t.a, t.c) = key)).map (rchN web)
theorem want_rch {t : NT4} (h : wantN web t = true) : ∃ i j : Nat, plc web (t.a, t.b) = some i ∧ plc web (t.c, t.d) = some j ∧ i < j ∧ meetS (gW web i) (gW web j) = true ∧ rchN web t = ((i : Int), (j : Int)) := by
  unfold wantN at h
  unfold rchN
  cases e1 : plc web (t.a, t.b) with
  | none => rw [e1] at h; cases h
  | some i =>
    cases e2 : plc web (t.c, t.d) with
    | none => rw [e1, e2] at h; cases h
    | some j =>
      rw [e1, e2] at h
      dsimp only at h
      by_cases c : i < j
      · rw [if_pos c] at h
        exact ⟨i, j, rfl, rfl, c, h, rfl⟩
      · rw [if_neg c] at h; cases h
theorem rsN_len {key : Int × Int} : (rsN web ws key).length ≤ ws.length := by
  unfold rsN
  rw [List.length_map]
  exact List.length_filter_le _ _
theorem rsN_snoc {t : NT4} {key : Int × Int} : rsN web (ws ++ [t]) key = if key = (t.a, t.c) then rsN web ws key ++ [rchN web t] else rsN web ws key := by
  unfold rsN
  rw [List.filter_append, List.map_append]
  by_cases c : key = (t.a, t.c)
  · rw [if_pos c]; subst c; simp
  · rw [if_neg c]
    have : ¬ (t.a, t.c) = key := fun e => c e.symm
    simp [this]
theorem rsN_pw : ws.Pairwise (apW web) ↔ ∀ key, (rsN web ws key).Pairwise apB := by
  have e : ∀ key, (rsN web ws key).Pairwise apB ↔ ws.Pairwise fun x y => (decide ((x.a, x.c) = key) = true) → (decide ((y.a, y.c) = key) = true) → apB (rchN web x) (rchN web y) := fun key => by
    unfold rsN
    rw [List.pairwise_map, List.pairwise_filter]
  refine ⟨fun h key => (e key).mpr (h.imp fun {x y} q hx hy => q ((of_decide_eq_true hx).trans (of_decide_eq_true hy).symm)), fun h => ?_⟩
  refine List.pairwise_iff_forall_sublist.mpr fun {x y} s => fun q => ?_
  exact List.pairwise_iff_forall_sublist.mp ((e (y.a, y.c)).mp (h _)) s (decide_eq_true q) (decide_eq_true rfl)
theorem mem_keys {κ α : Type} [DecidableEq κ] {k : κ} : ∀ {m : Dc κ α}, k ∈ m.map (·.1) ↔ (valM m k).isSome = true
  | [] => by simp [valM]
  | (j, a) :: m => by
    rw [valM_cons, List.map_cons, List.mem_cons, mem_keys (m := m)]
    by_cases c : j = k
    · simp [c]
    · rw [if_neg c]
      exact ⟨fun h => h.elim (fun e => absurd e.symm c) id, .inr⟩
theorem shows_wp {Φ : Bool → Prop} (hw : ∀ t ∈ web, ToOk t) (hl : web.length ≤ 1000) (hs : ws.length ≤ 10000000) (k : ∀ b : Bool, (b = true ↔ apartS web ws) → Φ b) : (m_apart_shows web ws).run Φ := by
  unfold m_apart_shows
  simp only [run_bind, run_rt]
  refine places_wp2 hw hl fun m hm => ?_
  refine forC_wp (fun i r => r.length ≤ i ∧ (∀ t ∈ ws.take i, wantN web t = true) ∧ ∀ key, (valM r key).getD [] = rsN web (ws.take i) key) ⟨Nat.le_refl _, by simp, fun key => rfl⟩ ?_ ?_
  · rintro i t r ht ⟨h1, h2, h3⟩
    have hi := (List.getElem?_eq_some_iff.mp ht).1
    unfold m_apart_shows_L1
    simp only [run_bind, run_rt, run_if, run_opt]
    refine want_wp hm ?_
    cases c : wantN web t with
    | false =>
      rw [if_pos (by rfl)]
      simp only [W.after, run_rt]
      exact k false ⟨fun h => (nomatch h), fun h => by
        have := h.1 t (List.mem_of_getElem? ht)
        rw [c] at this; exact this⟩
    | true =>
      obtain ⟨p, q, e1, e2, _, _, e3⟩ := want_rch c
      rw [if_neg (by decide)]
      refine ⟨(p : Int), by rw [hm, e1]; rfl, (q : Int), by rw [hm, e2]; rfl, ?_⟩
      have hb := rsN_len (web := web) (ws := ws.take i) (key := (t.a, t.c))
      rw [List.length_take] at hb
      show (_ ∧ _) ∧ _
      refine ⟨⟨Nat.lt_of_le_of_lt (Nat.le_trans h1 (Nat.le_trans (Nat.le_of_lt hi) hs)) (by decide), by rw [h3]; exact Nat.lt_of_le_of_lt (Nat.le_trans hb (Nat.le_trans (Nat.min_le_right _ _) hs)) (by decide)⟩, ?_⟩
      show _ ∧ _
      refine ⟨Nat.le_trans sd_len (by omega), fun s hs' => ?_, fun key => ?_⟩
      · rw [take_snocN ht] at hs'
        rcases List.mem_append.mp hs' with z | z
        · exact h2 s z
        · rw [List.mem_singleton.mp z]; exact c
      · rw [M.valM_put, take_snocN ht, rsN_snoc, e3]
        by_cases c : key = (t.a, t.c)
        · rw [if_pos c, if_pos c, Option.getD_some, h3, c]
        · rw [if_neg c, if_neg c, valM_setd', h3]
  · rintro r ⟨h1, h2, h3⟩
    rw [List.take_length] at h2 h3
    simp only [W.after, run_bind, run_rt]
    have hv : ∀ key, ∀ x ∈ rsN web ws key, x.1 < x.2 := fun key x hx => by
      obtain ⟨t, ht, rfl⟩ := List.mem_map.mp hx
      obtain ⟨i, j, _, _, hij, _, e⟩ := want_rch (h2 t (List.mem_filter.mp ht).1)
      rw [e]
      dsimp only
      omega
    have : ∃ g : Int × Int → Bool, ∀ key, (g key = true ↔ (rsN web ws key).Pairwise apB) := by
      classical
      exact ⟨fun key => decide ((rsN web ws key).Pairwise apB), fun key => by simp⟩
    obtain ⟨g, hg⟩ := this
    refine compG_wp (fun _ => true) g (isz (by rw [List.length_map]; omega)) (fun _ _ Ψ q => by exact q) (fun key hk _ Ψ q => ?_) ?_
    · obtain ⟨xs, ex⟩ := Option.isSome_iff_exists.mp (mem_keys.mp hk)
      have exs : xs = rsN web ws key := by rw [← h3, ex]; rfl
      simp only [run_bind, run_opt, run_rt]
      refine ⟨xs, ex, ?_⟩
      rw [exs]
      refine are_wp (Nat.le_trans rsN_len hs) (hv key) fun b hb => ?_
      have : b = g key := Bool.eq_iff_iff.mpr (hb.trans (hg key).symm)
      rw [this]; exact q
    · rw [show ∀ {α : Type} (l : List α), l.filter (fun _ => true) = l from fun l => List.filter_eq_self.mpr fun _ _ => rfl]
      refine k _ ?_
      rw [List.all_eq_true]
      unfold apartS
      rw [rsN_pw]
      refine ⟨fun h => ⟨h2, fun key => ?_⟩, fun h b hb => ?_⟩
      · by_cases c : key ∈ r.map (·.1)
        · exact (hg key).mp (h _ (List.mem_map.mpr ⟨key, c, rfl⟩))
        · have e : rsN web ws key = [] := by
            rw [← h3]
            cases q : valM r key with
            | none => rfl
            | some x => exact absurd (mem_keys.mpr (by rw [q]; rfl)) c
          rw [e]; exact .nil
      · obtain ⟨key, _, rfl⟩ := List.mem_map.mp hb
        exact (hg key).mpr (h.2 key)




end
end M

/-! # k33: strict notes and wants, one by one -/
namespace M
open PySem L2 Z
section
theorem web_wp {B : Nat} {s : Spr} {most : Int} {Φ : List (P3 Int Str Int) × Spr → Prop} (hs : SpOk B s) (hB : B < 2 ^ 39) (h0 : 0 ≤ most) (hm : most ≤ 300)
    (k : ∀ web s', WebOk web → (web.length : Int) ≤ max 30 most → SpOk (B + 1000) s' → Φ (web, s')) : (m_law_web s most).run Φ := by
  unfold m_law_web
  simp only [run_bind, run_bind2, run_rt, run_guard, run_opt]
  refine draw_wp hs (by omega) (by decide) (by decide) fun shape s1 a1 a2 hs1 => ?_
  dsimp only
  obtain ⟨i, hi, hsz⟩ : ∃ i : Int, (if decide (shape = 3) then (1 : Int) else 0) = i ∧ 0 ≤ i ∧ i < 2 := by
    refine ⟨_, rfl, ?_⟩
    by_cases c2 : shape = 3 <;> simp [c2]
  rw [hi]
  obtain ⟨top, htop, etop⟩ := atI_some (xs := [(31 : Int), most + 1]) hsz.1 hsz.2
  have ht : 0 < top ∧ top ≤ max 31 (most + 1) := by
    simp only [List.mem_cons, List.not_mem_nil, or_false] at htop
    omega
  refine ⟨top, etop, draw_wp hs1 (by omega) ht.1 (by omega) fun size s2 b1 b2 hs2 => ?_⟩
  refine draw_wp hs2 (by omega) (by decide) (by decide) fun hands s3 c1 c2 hs3 => ?_
  refine draw_wp hs3 (by omega) (by decide) (by decide) fun first s4 d1 d2 hs4 => ?_
  refine draw_wp hs4 (by omega) (by decide) (by decide) fun r s5 e1 e2 hs5 => ?_
  obtain ⟨room, hroom, eroom⟩ := atI_some (xs := [(1 : Int), 2, 3, 5, 20]) e1 (by simpa using e2)
  have hr : 0 < room ∧ room ≤ 20 := by
    simp only [List.mem_cons, List.not_mem_nil, or_false] at hroom
    omega
  refine ⟨room, eroom, ?_⟩
  refine draw_wp hs5 (by omega) (by decide) (by decide) fun base s6 f1 f2 hs6 => ?_
  refine draw_wp hs6 (by omega) (by decide) (by decide) fun pick s7 g1 g2 hs7 => ?_
  dsimp only at a1 a2 b1 b2 c1 c2 ⊢
  have rest : ∀ kinds : List Str, (∀ x ∈ kinds, x = "load" ∨ x = "store" ∨ x = "swap") → 0 < kinds.length → kinds.length ≤ 6 → rngOk 0 size ∧
      (W.forL (rng 0 size) (s7, ([] : List (P3 Int Str Int))) fun a s => m_law_web_L1 (1 + hands) first room base kinds a s.1 s.2).run fun a => Φ (a.2, a.1) := by
    intro kinds hk hk0 hk6
    refine ⟨⟨by decide, by decide, by omega, by omega⟩, ?_⟩
    have hlen : ((rng 0 size).length : Int) = size := by rw [rng_len]; omega
    refine forL_wp (fun i s => SpOk (B + 7 + 3 * i) s.1 ∧ (∀ t ∈ s.2, ToOk t) ∧ s.2.length = i) ⟨hs7, by simp, rfl⟩ ?_ ?_
    · rintro i x ⟨sp, web⟩ hx ⟨q1, q2, q3⟩
      have hi : i < (rng 0 size).length := (List.getElem?_eq_some_iff.mp hx).1
      have hi3 : i < 300 := by omega
      dsimp only at q1 q2 q3
      unfold m_law_web_L1
      simp only [run_bind, run_bind2, run_rt, run_guard, run_opt]
      refine draw_wp q1 (by omega) (by omega) (by omega) fun h s1 u1 u2 q1 => ?_
      refine draw_wp q1 (by omega) (by omega) (by omega) fun kd s2 v1 v2 q1 => ?_
      dsimp only at v1 v2 ⊢
      obtain ⟨kind, hkind, ekind⟩ := atI_some (xs := kinds) v1 v2
      refine ⟨kind, ekind, ?_⟩
      refine draw_wp q1 (by omega) hr.1 (by omega) fun c s3 w1 w2 q1 => ?_
      refine apd_wp (by omega) ⟨q1.mo (by omega), ?_, ?_⟩
      · intro t ht
        rcases List.mem_append.mp ht with ht | ht
        · exact q2 t ht
        · rw [List.mem_singleton.mp ht]
          exact ⟨Int.emod_nonneg _ (by decide), Int.emod_lt_of_pos _ (by decide), hk _ hkind, Int.emod_nonneg _ (by decide), Int.emod_lt_of_pos _ (by decide)⟩
      · simp [q3]
    · rintro ⟨sp, web⟩ ⟨q1, q2, q3⟩
      dsimp only at q1 q2 q3
      exact k web sp ⟨q2, by omega⟩ (by omega) (q1.mo (by omega))
  simp only [run_ite, run_rt, run_bind]
  refine ⟨fun _ => rest _ (by simp) (by simp) (by simp), fun _ => rest _ (by simp) (by simp) (by simp)⟩end
section
variable {web : List Tch} {key : Int × Int}
theorem inD_plc : inD key (nmS web) = (plc web key).isSome := by
  have get : ∀ m (hm : m < (nmS web).length), (nmS web)[m] = nmN web m := fun m hm => by
    have := nmS_get _ web rfl m (by rw [nmS_len] at hm; exact hm)
    rw [List.getElem?_eq_getElem hm] at this
    exact Option.some.inj this
  cases e : plc web key with
  | some i =>
    obtain ⟨h1, h2⟩ := plcT_some e
    show inD key (nmS web) = true
    have := List.getElem_mem (l := nmS web) (n := i) (by rw [nmS_len]; exact h1)
    rw [get, h2] at this
    exact inD_iff.mpr this
  | none =>
    show inD key (nmS web) = false
    refine Bool.eq_false_iff.mpr fun h => ?_
    obtain ⟨i, hi, e2⟩ := List.getElem_of_mem (inD_iff.mp h)
    rw [get] at e2
    exact plcT_none e i (by rw [nmS_len] at hi; exact hi) e2
theorem idx_plc {i : Nat} (h : plc web key = some i) : idxD key (nmS web) = some (i : Int) := by
  obtain ⟨h1, h2⟩ := plcT_some h
  rw [← h2]
  exact idx_nm h1
theorem lends_wp {t : NT4} {Φ : Option (Int × Int) → Prop} (k : Φ ((endN web t).map fun p => ((p.1 : Int), (p.2 : Int)))) : (m_law_ends (nmS web) t).run Φ := by
  unfold endN at k
  unfold m_law_ends
  have ok : ∀ {x : Int × Int} {l : List (Int × Int)}, okD x ∧ okD l := ⟨okD_pl _, okD_pl _⟩
  simp only [run_bind, run_rt, run_if, run_guard, run_opt, inD_plc, decide_eq_true_eq]
  by_cases c : t.a = t.c
  · rw [if_pos c] at k ⊢
    simp only [if_true]
    exact k
  · rw [if_neg c] at k ⊢
    refine ⟨ok, ?_⟩
    cases e1 : plc web (t.a, t.b) with
    | none =>
      rw [e1] at k
      simpa using k
    | some i =>
      rw [if_neg (by simp)]
      refine ⟨ok, ?_⟩
      cases e2 : plc web (t.c, t.d) with
      | none =>
        rw [e1, e2] at k
        simpa using k
      | some j =>
        rw [e1, e2] at k
        dsimp only at k
        rw [if_neg (by simp)]
        refine ⟨ok, (i : Int), idx_plc e1, ok, (j : Int), idx_plc e2, ?_⟩
        by_cases d : i < j
        · rw [if_neg (by omega)]
          rw [if_pos d] at k
          exact ⟨ok, _, idx_plc e1, ok, _, idx_plc e2, k⟩
        · rw [if_pos (by omega)]
          rw [if_neg d] at k
          exact k
theorem lwant_wp {t : NT4} {Φ : Bool → Prop} (k : Φ (wantN web t)) : (m_law_is_want web (nmS web) t).run Φ := by
  rw [wantN_eq] at k
  unfold m_law_is_want
  simp only [run_bind, run_rt, run_if, run_guard, run_opt]
  refine lends_wp ⟨nn, ?_⟩
  cases e : endN web t with
  | none =>
    rw [e] at k
    simpa using k
  | some p =>
    obtain ⟨i, j⟩ := p
    rw [e] at k
    have hij : i < web.length ∧ j < web.length := by
      unfold endN at e
      split at e
      · cases e
      · cases e1 : plc web (t.a, t.b) with
        | none => rw [e1] at e; cases e
        | some i' =>
          cases e2 : plc web (t.c, t.d) with
          | none => rw [e1, e2] at e; cases e
          | some j' =>
            rw [e1, e2] at e
            dsimp only at e
            split at e
            · cases e; exact ⟨(plcT_some e1).1, (plcT_some e2).1⟩
            · cases e
    rw [if_pos (by rfl)]
    exact ⟨_, rfl, _, gW_at hij.1, _, rfl, _, gW_at hij.2, law_meets_wp k⟩
end
theorem nodup_len : ∀ n (l : List Nat), l.Nodup → (∀ x ∈ l, x < n) → l.length ≤ n := by
  intro n
  induction n with
  | zero => intro l _ h; cases l with | nil => exact Nat.le_refl _ | cons a l => exact absurd (h a List.mem_cons_self) (by omega)
  | succ n ih =>
    intro l hn h
    have := ih (l.erase n) (hn.erase n) fun x hx => by
      have h1 := h x (List.mem_of_mem_erase hx)
      have h2 : x ≠ n := fun e => by subst e; exact (List.Nodup.not_mem_erase hn) hx
      omega
    by_cases c : n ∈ l
    · rw [List.length_erase_of_mem c] at this; omega
    · rw [List.erase_of_not_mem c] at this; omega
section
variable {web : List (P3 Int Str Int)} {ends : List (Int × Int)} {T : List (List Int)} {n j : Nat}
structure PrOk (web : List Tch) (p : Int × Int) : Prop where
  a0 : 0 ≤ p.1
  ab : p.1 < p.2
  b1 : p.2 < web.length
  ne : (gW web p.1.toNat).a ≠ (gW web p.2.toNat).a
theorem hand_ok (hw : ∀ t ∈ web, ToOk t) (hj : j < web.length) : 0 ≤ (gW web j).a ∧ (gW web j).a < 8 := by
  have ht := hw _ (List.mem_of_getElem? (gW_get hj))
  exact ⟨ht.h0, ht.h8⟩
def ntN (web : List Tch) (p : Int × Int) : P4 Int Int Int Int := ⟨(nmN web p.1.toNat).1, (nmN web p.1.toNat).2, (nmN web p.2.toNat).1, (nmN web p.2.toNat).2⟩
end
section
variable {web : List (P3 Int Str Int)} {ends : List (Int × Int)} {h o : Int} {i j m n x y : Nat}
/-- a strict note is found there -/
structure Hit (web : List (P3 Int Str Int)) (h o : Int) (j : Nat) : Prop where
  oo : (gW web j).a = o
  gt : lte web h j > (gr web h o j).2
theorem nmAt_N (hx : x < web.length) : nmAt web (x : Int) = nmN web x := by
  unfold nmAt
  rw [Int.toNat_natCast, List.getD_eq_getElem?_getD, nmS_get _ web rfl x hx]
  rfl
theorem nte_fst {l : Nat} {z : Int} (hl : l < web.length) (hj : j < web.length) : (nte web (l : Int) z j).1 = ntN web ((l : Int), (j : Int)) := by
  unfold nte ntN
  rw [nmAt_N hl, nmAt_N hj, Int.toNat_natCast, Int.toNat_natCast]
theorem nte_snd {i : Nat} {z : Int} (hi : i < web.length) (hj : j < web.length) : (nte web z (i : Int) j).2 = ntN web ((i : Int), (j : Int)) := by
  unfold nte ntN
  rw [nmAt_N hi, nmAt_N hj, Int.toNat_natCast, Int.toNat_natCast]
/-- what a hit tells -/
structure HitAt (web : List (P3 Int Str Int)) (h o : Int) (j l i : Nat) : Prop where
  il : i ≤ l
  lj : l < j
  hl : (gW web l).a = h
  hi : (gW web i).a = h
  mt : meetS (gW web i) (gW web j) = true
  gt : (gr web h o j).2 < i
  ml : ∀ x : Nat, x < j → (gW web x).a = h → x ≤ l
theorem Hit.at (H : Hit web h o j) : ∃ l i : Nat, lst web h j = l ∧ lte web h j = i ∧ HitAt web h o j l i := by
  have hm := gr_met (web := web) (h := h) (o := o) j
  obtain ⟨q1, q2⟩ : lte web h j ∈ cand web h j ∧ ∀ y ∈ cand web h j, y ≤ lte web h j := by
    rcases lte_cases (web := web) (h := h) (j := j) with ⟨_, z⟩ | z
    · have := H.gt; omega
    · exact z
  obtain ⟨l1, l2, l3⟩ := lst_of (List.ne_nil_of_mem (cand_mem q1))
  obtain ⟨w1, w2, w3⟩ := hpI_mem.mp l2
  obtain ⟨v1, v2, v3⟩ := hpI_mem.mp (cand_mem q1)
  have v4 := (List.mem_filter.mp q1).2
  have l4 := l3 _ (cand_mem q1)
  refine ⟨(lst web h j).toNat, (lte web h j).toNat, by omega, by omega, by omega, by omega, w3, v3, v4, by have := H.gt; omega, fun x hx hh => ?_⟩
  have := l3 (x : Int) (hpI_mem.mpr ⟨by omega, by omega, by rw [Int.toNat_natCast]; exact hh⟩)
  omega
theorem gr_iff {e : NT4 × NT4} : ∀ {n}, e ∈ (gr web h o n).1 ↔ ∃ j, j < n ∧ Hit web h o j ∧ e = nte web (lst web h j) (lte web h j) j
  | 0 => ⟨fun h => (nomatch h), fun ⟨j, h, _⟩ => by omega⟩
  | n + 1 => by
    have ih := gr_iff (e := e) (n := n)
    unfold gr
    by_cases c : (gW web n).a = o ∧ lte web h n > (gr web h o n).2
    · rw [if_pos c]
      dsimp only
      rw [List.mem_append, ih, List.mem_singleton]
      constructor
      · rintro (⟨j, h1, h2⟩ | q)
        · exact ⟨j, by omega, h2⟩
        · exact ⟨n, by omega, ⟨c.1, c.2⟩, q⟩
      · rintro ⟨j, h1, h2, h3⟩
        by_cases d : j = n
        · subst d; exact .inr h3
        · exact .inl ⟨j, by omega, h2, h3⟩
    · rw [if_neg c, ih]
      constructor
      · rintro ⟨j, h1, h2⟩; exact ⟨j, by omega, h2⟩
      · rintro ⟨j, h1, h2, h3⟩
        by_cases d : j = n
        · subst d; exact absurd ⟨h2.oo, h2.gt⟩ c
        · exact ⟨j, by omega, h2, h3⟩
theorem gr_last : ∀ n : Nat, (gr web h o n).2 = -1 ∨ ∃ j : Nat, (gr web h o n).2 = j ∧ j < n ∧ Hit web h o j
  | 0 => .inl rfl
  | n + 1 => by
    have ih := gr_last n
    unfold gr
    by_cases c : (gW web n).a = o ∧ lte web h n > (gr web h o n).2
    · rw [if_pos c]; exact .inr ⟨n, rfl, by omega, c.1, c.2⟩
    · rw [if_neg c]
      rcases ih with q | ⟨j, h1, h2, h3⟩
      · exact .inl q
      · exact .inr ⟨j, h1, by omega, h3⟩
theorem gr_mono : ∀ {n : Nat}, j ≤ n → (gr web h o j).2 ≤ (gr web h o n).2
  | 0, hj => by rw [show j = 0 by omega]; exact Int.le_refl _
  | n + 1, hj => by
    by_cases e : j = n + 1
    · rw [e]; exact Int.le_refl _
    · have ih := gr_mono (n := n) (by omega)
      have := gr_met (web := web) (h := h) (o := o) n
      unfold gr
      generalize hz : (gr web h o j).2 = z at ih
      have e : (match j with | 0 => (([] : List (NT4 × NT4)), (-1 : Int)) | m + 1 => gr web h o (m + 1)).2 = z := by
        rw [← hz]; cases j <;> rfl
      by_cases c : (gW web n).a = o ∧ lte web h n > (gr web h o n).2
      · rw [if_pos c]
        have : (gr web h o j).2 ≤ (n : Int) := by omega
        cases j with
        | zero => exact this
        | succ j => exact this
      · rw [if_neg c]
        have : (gr web h o j).2 ≤ (gr web h o n).2 := by omega
        cases j with
        | zero => exact this
        | succ j => exact this
theorem Hit.met (H : Hit web h o j) (hj : j < n) : (j : Int) ≤ (gr web h o n).2 := by
  have e : (gr web h o (j + 1)).2 = (j : Int) := by
    show (if _ then _ else _ : List (NT4 × NT4) × Int).2 = _
    rw [if_pos ⟨H.oo, H.gt⟩]
  rw [← e]
  exact gr_mono hj
theorem A1_iff {e : NT4 × NT4} : ∀ {t}, e ∈ A1 web h t ↔ ∃ c : Nat, c < t ∧ (c : Int) ≠ h ∧ e ∈ (gr web h c web.length).1
  | 0 => ⟨fun h => (nomatch h), fun ⟨j, h, _⟩ => by omega⟩
  | t + 1 => by
    rw [A1, List.mem_append, A1_iff (t := t)]
    constructor
    · rintro (⟨c, h1, h2⟩ | q)
      · exact ⟨c, by omega, h2⟩
      · by_cases d : (t : Int) = h
        · rw [if_pos d] at q; cases q
        · rw [if_neg d] at q; exact ⟨t, by omega, d, q⟩
    · rintro ⟨c, h1, h2, h3⟩
      by_cases d : c = t
      · subst d; right; rw [if_neg h2]; exact h3
      · exact .inl ⟨c, by omega, h2, h3⟩
theorem A2_iff {e : NT4 × NT4} : ∀ {t}, e ∈ A2 web t ↔ ∃ c : Nat, c < t ∧ e ∈ A1 web (c : Int) 8
  | 0 => ⟨fun h => (nomatch h), fun ⟨j, h, _⟩ => by omega⟩
  | t + 1 => by
    rw [A2, List.mem_append, A2_iff (t := t)]
    constructor
    · rintro (⟨c, h1, h2⟩ | q)
      · exact ⟨c, by omega, h2⟩
      · exact ⟨t, by omega, q⟩
    · rintro ⟨c, h1, h2⟩
      by_cases d : c = t
      · subst d; exact .inr h2
      · exact .inl ⟨c, by omega, h2⟩
/-- all that is found -/
theorem A_iff {e : NT4 × NT4} : e ∈ A2 web 8 ↔ ∃ a c j : Nat, a < 8 ∧ c < 8 ∧ c ≠ a ∧ j < web.length ∧ Hit web a c j ∧ e = nte web (lst web a j) (lte web a j) j := by
  rw [A2_iff]
  constructor
  · rintro ⟨a, ha, q⟩
    obtain ⟨c, hc, hne, q⟩ := A1_iff.mp q
    obtain ⟨j, hj, H, e⟩ := gr_iff.mp q
    exact ⟨a, c, j, ha, hc, by omega, hj, H, e⟩
  · rintro ⟨a, c, j, ha, hc, hne, hj, H, e⟩
    exact ⟨a, ha, A1_iff.mpr ⟨c, hc, by omega, gr_iff.mpr ⟨j, hj, H, e⟩⟩⟩
/-- a pair that a strict note stands for -/
def SPr (web : List (P3 Int Str Int)) (p : Int × Int) : Prop := ∃ j l i : Nat, p = ((l : Int), (j : Int)) ∧ j < web.length ∧ Hit web (gW web l).a (gW web j).a j ∧ lst web (gW web l).a j = l ∧ lte web (gW web l).a j = i ∧ HitAt web (gW web l).a (gW web j).a j l i ∧ (gW web l).a ≠ (gW web j).a
theorem SPr.pr {p : Int × Int} (h : SPr web p) : PrOk web p := by
  obtain ⟨j, l, i, rfl, hj, H, e1, e2, A, hne⟩ := h
  have := A.lj
  exact ⟨by dsimp only; omega, by dsimp only; omega, by dsimp only; omega, by dsimp only; rw [Int.toNat_natCast, Int.toNat_natCast]; exact hne⟩
theorem A_spr {e : NT4 × NT4} (he : e ∈ A2 web 8) : ∃ p, SPr web p ∧ e.1 = ntN web p := by
  obtain ⟨a, c, j, ha, hc, hne, hj, H, rfl⟩ := A_iff.mp he
  obtain ⟨l, i, e1, e2, A⟩ := H.at
  have h1 := A.hl
  have h2 := H.oo
  refine ⟨((l : Int), (j : Int)), ⟨j, l, i, rfl, hj, ?_, ?_, ?_, ?_, ?_⟩, ?_⟩
  · rw [h1, h2]; exact H
  · rw [h1]; exact e1
  · rw [h1]; exact e2
  · rw [h1, h2]; exact A
  · rw [h1, h2]; omega
  · rw [e1]
    have := A.lj
    exact nte_fst (by omega) hj
theorem spr_A (hw : ∀ t ∈ web, ToOk t) {p : Int × Int} (hp : SPr web p) : ∃ e ∈ A2 web 8, e.1 = ntN web p := by
  obtain ⟨j, l, i, rfl, hj, H, e1, e2, A, hne⟩ := hp
  have hlj := A.lj
  obtain ⟨a0, a8⟩ := hand_ok hw (show l < web.length by omega)
  obtain ⟨c0, c8⟩ := hand_ok hw hj
  obtain ⟨a, ea⟩ : ∃ a : Nat, (gW web l).a = a := ⟨(gW web l).a.toNat, by omega⟩
  obtain ⟨c, ec⟩ : ∃ c : Nat, (gW web j).a = c := ⟨(gW web j).a.toNat, by omega⟩
  rw [ea] at H e1 e2 hne
  rw [ec] at H hne
  refine ⟨nte web (lst web a j) (lte web a j) j, A_iff.mpr ⟨a, c, j, by omega, by omega, by omega, hj, H, rfl⟩, ?_⟩
  rw [e1]
  exact nte_fst (by omega) hj
/-- each pair that meets is met -/
theorem cover (hij : i < j) (hj : j < web.length) (hm : meetS (gW web i) (gW web j) = true) : ∃ l m : Nat, i ≤ l ∧ m ≤ j ∧ (gW web l).a = (gW web i).a ∧ (gW web m).a = (gW web j).a ∧ SPr web ((l : Int), (m : Int)) := by
  have hne : (gW web i).a ≠ (gW web j).a := fun e => by
    unfold meetS at hm
    rw [e] at hm
    simp at hm
  have hc : (i : Int) ∈ cand web (gW web i).a j := List.mem_filter.mpr ⟨hpI_mem.mpr ⟨by omega, by omega, by rw [Int.toNat_natCast]⟩, by rw [Int.toNat_natCast]; exact hm⟩
  have hle : (i : Int) ≤ lte web (gW web i).a j := by
    rcases lte_cases (web := web) (h := (gW web i).a) (j := j) with ⟨e, _⟩ | ⟨_, q⟩
    · rw [e] at hc; cases hc
    · exact q _ hc
  have key : ∀ m, Hit web (gW web i).a (gW web j).a m → m ≤ j → i < m → ∃ l m : Nat, i ≤ l ∧ m ≤ j ∧ (gW web l).a = (gW web i).a ∧ (gW web m).a = (gW web j).a ∧ SPr web ((l : Int), (m : Int)) := fun m H hmj him => by
    obtain ⟨l, x, e1, e2, A⟩ := H.at
    have h1 := A.hl
    have h2 := H.oo
    refine ⟨l, m, A.ml i him rfl, hmj, h1, h2, m, l, x, rfl, by omega, ?_, ?_, ?_, ?_, ?_⟩
    · rw [h1, h2]; exact H
    · rw [h1]; exact e1
    · rw [h1]; exact e2
    · rw [h1, h2]; exact A
    · rw [h1, h2]; exact hne
  by_cases c : lte web (gW web i).a j > (gr web (gW web i).a (gW web j).a j).2
  · exact key j ⟨rfl, c⟩ (Nat.le_refl _) hij
  · rcases gr_last (web := web) (h := (gW web i).a) (o := (gW web j).a) j with e | ⟨m, e1, e2, H⟩
    · omega
    · refine key m H (by omega) ?_
      apply Classical.byContradiction
      intro n
      have : i = m := by omega
      exact hne (by rw [this]; exact H.oo)
end
section
variable {web : List (P3 Int Str Int)} {h o : Int} {i j m n x y : Nat}
/-! all that is found, by hands and place -/
def Gj (web : List (P3 Int Str Int)) (h o : Int) : Nat → List Nat
  | 0 => []
  | n + 1 => if (gW web n).a = o ∧ lte web h n > (gr web h o n).2 then Gj web h o n ++ [n] else Gj web h o n
theorem Gj_gr : ∀ n, (gr web h o n).1 = (Gj web h o n).map fun j => nte web (lst web h j) (lte web h j) j
  | 0 => rfl
  | n + 1 => by
    have ih := Gj_gr n
    unfold gr Gj
    by_cases c : (gW web n).a = o ∧ lte web h n > (gr web h o n).2
    · rw [if_pos c, if_pos c, List.map_append, ← ih]; rfl
    · rw [if_neg c, if_neg c, ih]
theorem Gj_hit : ∀ n, ∀ j ∈ Gj web h o n, j < n ∧ Hit web h o j
  | 0, j, hj => nomatch hj
  | n + 1, j, hj => by
    unfold Gj at hj
    by_cases c : (gW web n).a = o ∧ lte web h n > (gr web h o n).2
    · rw [if_pos c] at hj
      rcases List.mem_append.mp hj with q | q
      · have := Gj_hit n j q; exact ⟨by omega, this.2⟩
      · rw [List.mem_singleton.mp q]; exact ⟨by omega, c.1, c.2⟩
    · rw [if_neg c] at hj
      have := Gj_hit n j hj; exact ⟨by omega, this.2⟩
theorem Gj_pw : ∀ n, (Gj web h o n).Pairwise fun (j j' : Nat) => (j : Int) < lte web h j'
  | 0 => .nil
  | n + 1 => by
    have ih := Gj_pw n
    unfold Gj
    by_cases c : (gW web n).a = o ∧ lte web h n > (gr web h o n).2
    · rw [if_pos c]
      refine List.pairwise_append.mpr ⟨ih, List.pairwise_singleton _ _, fun a ha b hb => ?_⟩
      rw [List.mem_singleton.mp hb]
      obtain ⟨h1, h2⟩ := Gj_hit n a ha
      have := h2.met h1
      omega
    · rw [if_neg c]; exact ih
abbrev Tri := Nat × Nat × Nat
def T1 (web : List (P3 Int Str Int)) (h : Nat) : Nat → List Tri
  | 0 => []
  | t + 1 => T1 web h t ++ if t = h then [] else (Gj web h t web.length).map fun j => (h, t, j)
def T2 (web : List (P3 Int Str Int)) : Nat → List Tri
  | 0 => []
  | t + 1 => T2 web t ++ T1 web t 8
def ntF (web : List (P3 Int Str Int)) (q : Tri) : NT4 × NT4 := nte web (lst web q.1 q.2.2) (lte web q.1 q.2.2) q.2.2
theorem T1_A1 {h : Nat} : ∀ t, A1 web (h : Int) t = (T1 web h t).map (ntF web)
  | 0 => rfl
  | t + 1 => by
    rw [A1, T1, List.map_append, T1_A1 t]
    by_cases c : t = h
    · rw [if_pos c, if_pos (by omega)]; rfl
    · rw [if_neg c, if_neg (by omega), Gj_gr, List.map_map]; rfl
theorem T2_A2 : ∀ t, A2 web t = (T2 web t).map (ntF web)
  | 0 => rfl
  | t + 1 => by rw [A2, T2, List.map_append, T2_A2 t, T1_A1]
theorem T1_mem {h : Nat} {q : Tri} : ∀ {t}, q ∈ T1 web h t → q.1 = h ∧ q.2.1 < t ∧ q.2.1 ≠ h ∧ q.2.2 < web.length ∧ Hit web (h : Int) (q.2.1 : Int) q.2.2
  | 0, hq => nomatch hq
  | t + 1, hq => by
    rw [T1] at hq
    rcases List.mem_append.mp hq with r | r
    · have := T1_mem r; exact ⟨this.1, by omega, this.2.2⟩
    · by_cases c : t = h
      · rw [if_pos c] at r; cases r
      · rw [if_neg c] at r
        obtain ⟨j, hj, rfl⟩ := List.mem_map.mp r
        have := Gj_hit _ j hj
        exact ⟨rfl, by dsimp only; omega, c, this.1, this.2⟩
theorem T2_mem {q : Tri} : ∀ {t}, q ∈ T2 web t → q.1 < t ∧ q.2.1 < 8 ∧ q.2.1 ≠ q.1 ∧ q.2.2 < web.length ∧ Hit web (q.1 : Int) (q.2.1 : Int) q.2.2
  | 0, hq => nomatch hq
  | t + 1, hq => by
    rw [T2] at hq
    rcases List.mem_append.mp hq with r | r
    · have := T2_mem r; exact ⟨by omega, this.2⟩
    · obtain ⟨h1, h2⟩ := T1_mem r
      subst h1
      exact ⟨by omega, h2⟩
def Rq (web : List (P3 Int Str Int)) (q r : Tri) : Prop := q.1 = r.1 → q.2.1 = r.2.1 → (q.2.2 : Int) < lte web r.1 r.2.2
theorem T1_pw {h : Nat} : ∀ t, (T1 web h t).Pairwise (Rq web)
  | 0 => .nil
  | t + 1 => by
    rw [T1]
    refine List.pairwise_append.mpr ⟨T1_pw t, ?_, fun a ha b hb e1 e2 => ?_⟩
    · by_cases c : t = h
      · rw [if_pos c]; exact .nil
      · rw [if_neg c]
        exact List.pairwise_map.mpr ((Gj_pw _).imp fun h _ _ => h)
    · by_cases c : t = h
      · rw [if_pos c] at hb; cases hb
      · rw [if_neg c] at hb
        obtain ⟨j, hj, rfl⟩ := List.mem_map.mp hb
        have := (T1_mem ha).2.1
        dsimp only at e2
        omega
theorem T2_pw : ∀ t, (T2 web t).Pairwise (Rq web)
  | 0 => .nil
  | t + 1 => by
    rw [T2]
    refine List.pairwise_append.mpr ⟨T2_pw t, T1_pw 8, fun a ha b hb e1 _ => ?_⟩
    have := (T2_mem ha).1
    have := (T1_mem hb).1
    omega
/-- what a triple tells -/
structure TrOk (web : List (P3 Int Str Int)) (q : Tri) (l i : Nat) : Prop where
  a8 : q.1 < 8
  c8 : q.2.1 < 8
  ne : q.2.1 ≠ q.1
  jn : q.2.2 < web.length
  hj : (gW web q.2.2).a = q.2.1
  hl : (gW web l).a = q.1
  hi : (gW web i).a = q.1
  il : i ≤ l
  lj : l < q.2.2
  mt : meetS (gW web i) (gW web q.2.2) = true
  lt : lte web q.1 q.2.2 = i
  f1 : (ntF web q).1 = ntN web ((l : Int), (q.2.2 : Int))
  f2 : (ntF web q).2 = ntN web ((i : Int), (q.2.2 : Int))
theorem T2_ok {q : Tri} (hq : q ∈ T2 web 8) : ∃ l i, TrOk web q l i := by
  obtain ⟨h1, h2, h3, h4, H⟩ := T2_mem hq
  obtain ⟨l, i, e1, e2, A⟩ := H.at
  have a1 := A.lj
  have a2 := A.il
  refine ⟨l, i, h1, h2, h3, h4, H.oo, A.hl, A.hi, A.il, A.lj, A.mt, e2, ?_, ?_⟩
  · unfold ntF; rw [e1]; exact nte_fst (by omega) h4
  · unfold ntF; rw [e2]; exact nte_snd (by omega) h4
theorem ntN_eq {a b c d : Nat} (ha : a < web.length) (hb : b < web.length) (hc : c < web.length) (hd : d < web.length) (e : ntN web ((a : Int), (b : Int)) = ntN web ((c : Int), (d : Int))) : a = c ∧ b = d := by
  unfold ntN at e
  injection e with e1 e2 e3 e4
  simp only [Int.toNat_natCast] at e1 e2 e3 e4
  exact ⟨nm_inj ha hc (Prod.ext e1 e2), nm_inj hb hd (Prod.ext e3 e4)⟩
theorem told_nd : ((T2 web 8).map fun q => (ntF web q).1).Nodup := by
  refine List.pairwise_map.mpr (List.Pairwise.imp_of_mem (fun {q r} hq hr R e => ?_) (T2_pw 8))
  obtain ⟨l, i, A⟩ := T2_ok hq
  obtain ⟨l', i', B⟩ := T2_ok hr
  rw [A.f1, B.f1] at e
  have := A.lj; have := B.lj; have := A.jn; have := B.jn; have := B.il
  obtain ⟨e1, e2⟩ := ntN_eq (by omega) A.jn (by omega) B.jn e
  have h1 := A.hl; have h2 := B.hl; have h3 := A.hj; have h4 := B.hj
  rw [e1] at h1; rw [e2] at h3
  have := R (by omega) (by omega)
  rw [B.lt] at this
  omega
theorem T2_len (hl : web.length ≤ 100) : (T2 web 8).length ≤ 800 := by
  have q := nodup_len 800 ((T2 web 8).map fun q => q.1 * 100 + q.2.2) ?_ ?_
  · rwa [List.length_map] at q
  · refine List.pairwise_map.mpr (List.Pairwise.imp_of_mem (fun {q r} hq hr R e => ?_) (T2_pw 8))
    obtain ⟨l, i, A⟩ := T2_ok hq
    obtain ⟨l', i', B⟩ := T2_ok hr
    have := A.lj; have := B.lj; have := A.jn; have := B.jn; have := B.il
    have e2 : q.2.2 = r.2.2 := by omega
    have h3 := A.hj; have h4 := B.hj
    rw [e2] at h3
    have := R (by omega) (by omega)
    rw [B.lt] at this
    omega
  · intro x hx
    obtain ⟨q, hq, rfl⟩ := List.mem_map.mp hx
    obtain ⟨l, i, A⟩ := T2_ok hq
    have := A.a8; have := A.jn
    omega
/-! the wants are apart -/
theorem rch_nt {i j : Nat} (hi : i < web.length) (hj : j < web.length) : rchN web (ntN web ((i : Int), (j : Int))) = ((i : Int), (j : Int)) := by
  unfold rchN pz ntN
  simp only [Int.toNat_natCast]
  rw [show ((nmN web i).1, (nmN web i).2) = nmN web i from rfl, show ((nmN web j).1, (nmN web j).2) = nmN web j from rfl, plc_nm hi, plc_nm hj]
  rfl
theorem want_nt {i j : Nat} (hij : i < j) (hj : j < web.length) (hm : meetS (gW web i) (gW web j) = true) : wantN web (ntN web ((i : Int), (j : Int))) = true := by
  rw [wantN_nt hij hj (by unfold ntN; simp only [Int.toNat_natCast]) (by unfold ntN; simp only [Int.toNat_natCast])]
  exact hm
theorem wants_apart_ : apartS web ((T2 web 8).map fun q => (ntF web q).2) := by
  refine ⟨fun t ht => ?_, ?_⟩
  · obtain ⟨q, hq, rfl⟩ := List.mem_map.mp ht
    obtain ⟨l, i, A⟩ := T2_ok hq
    have := A.lj; have := A.il
    rw [A.f2]
    exact want_nt (by omega) A.jn A.mt
  · refine List.pairwise_map.mpr (List.Pairwise.imp_of_mem (fun {q r} hq hr R => ?_) (T2_pw 8))
    obtain ⟨l, i, A⟩ := T2_ok hq
    obtain ⟨l', i', B⟩ := T2_ok hr
    have := A.lj; have := B.lj; have := A.jn; have := B.jn; have := B.il; have := A.il
    rw [A.f2, B.f2]
    intro e
    rw [rch_nt (by omega) A.jn, rch_nt (by omega) B.jn]
    unfold ntN nmN at e
    simp only [Int.toNat_natCast] at e
    have e1 := (Prod.mk.inj e).1
    have e2 := (Prod.mk.inj e).2
    have h1 := A.hi; have h2 := B.hi; have h3 := A.hj; have h4 := B.hj
    have := R (by omega) (by omega)
    rw [B.lt] at this
    exact .inl this
/-! a note meets one want at most -/
def NoteOk (web : List (P3 Int Str Int)) (t : NT4) : Prop := ∃ p r : Nat, p < r ∧ r < web.length ∧ (gW web p).a ≠ (gW web r).a ∧ t = ntN web ((p : Int), (r : Int))
theorem nm_ge {p i : Nat} (hi : i < web.length) (hp : p < web.length) (e : (gW web p).a = (gW web i).a) (h : (nmN web p).2 ≥ (nmN web i).2) : i ≤ p := by
  refine Classical.byContradiction fun q => ?_
  have := cnt_mono (web := web) (i := p) (h := (gW web i).a) e (j := i) (by omega) (by omega)
  unfold nmN at h
  dsimp only at h
  rw [e] at h
  omega
theorem due_in {p r i j : Nat} (hpr : p < r) (hr : r < web.length) (hi : i < web.length) (hj : j < web.length) (h : dueN (ntN web ((p : Int), (r : Int))) (ntN web ((i : Int), (j : Int))) = true) : (gW web p).a = (gW web i).a ∧ (gW web r).a = (gW web j).a ∧ i ≤ p ∧ r ≤ j := by
  unfold dueN at h
  simp only [Bool.and_eq_true, decide_eq_true_eq] at h
  unfold ntN at h
  simp only [Int.toNat_natCast] at h
  obtain ⟨h1, h2, h3, h4⟩ := h
  exact ⟨h1, h2, nm_ge hi (by omega) h1 h3, nm_ge hr hj h2.symm h4⟩
def Sep (web : List (P3 Int Str Int)) (x y : NT4) : Prop := ∀ n, NoteOk web n → ¬ (dueN n x = true ∧ dueN n y = true)
theorem Sep.symm {x y : NT4} (h : Sep web x y) : Sep web y x := fun n hn q => h n hn ⟨q.2, q.1⟩
theorem wants_sep : ((T2 web 8).map fun q => (ntF web q).2).Pairwise (Sep web) := by
  refine List.pairwise_map.mpr (List.Pairwise.imp_of_mem (fun {q r} hq hr R => ?_) (T2_pw 8))
  obtain ⟨l, i, A⟩ := T2_ok hq
  obtain ⟨l', i', B⟩ := T2_ok hr
  have := A.lj; have := B.lj; have := A.jn; have := B.jn; have := B.il; have := A.il
  rintro n ⟨p, z, hpz, hz, -, rfl⟩ ⟨d1, d2⟩
  rw [A.f2] at d1
  rw [B.f2] at d2
  obtain ⟨x1, x2, x3, x4⟩ := due_in hpz hz (by omega) A.jn d1
  obtain ⟨y1, y2, y3, y4⟩ := due_in hpz hz (by omega) B.jn d2
  have h1 := A.hi; have h2 := B.hi; have h3 := A.hj; have h4 := B.hj
  have := R (by omega) (by omega)
  rw [B.lt] at this
  omega
theorem pigeon {α β : Type} [DecidableEq β] {f : β → α → Bool} : ∀ {l : List α} {s : List β}, (l.Pairwise fun x y => ∀ n ∈ s, ¬ (f n x = true ∧ f n y = true)) → (∀ x ∈ l, ∃ n ∈ s, f n x = true) → l.length ≤ s.length
  | [], _, _, _ => Nat.zero_le _
  | x :: l, s, hp, hx => by
    obtain ⟨n, hn, hf⟩ := hx x List.mem_cons_self
    obtain ⟨p1, p2⟩ := List.pairwise_cons.mp hp
    have ih := pigeon (f := f) (l := l) (s := s.erase n) (p2.imp fun h m hm => h m (List.mem_of_mem_erase hm)) fun y hy => by
      obtain ⟨m, hm, hfm⟩ := hx y (List.mem_cons_of_mem _ hy)
      have ne : m ≠ n := fun e => p1 y hy n hn ⟨hf, e ▸ hfm⟩
      exact ⟨m, (List.mem_erase_of_ne ne).mpr hm, hfm⟩
    rw [List.length_erase_of_mem hn] at ih
    have := List.length_pos_of_mem hn
    rw [List.length_cons]
    omega
end
end M

/-! # k33: the law -/
namespace M
open PySem L2 Z
section
variable {web : List (P3 Int Str Int)} {n m : Nat}
theorem szN {n : Nat} (h : n ≤ 100000) : n ≤ sizeLine := Nat.le_trans h (by decide)
/-! the counts -/
def hds (t : NT4) : Int × Int := (t.a, t.c)
def ctH (l : List NT4) (k : Int × Int) : Nat := (l.filter fun t => decide (hds t = k)).length
structure CntOk (l : List NT4) (d : Dc (Int × Int) Int) : Prop where
  nd : (d.map (·.1)).Nodup
  vl : ∀ k, valM d k = if ctH l k = 0 then none else some (ctH l k : Int)
theorem putM_nd {κ α : Type} [DecidableEq κ] {k : κ} {a : α} {d : Dc κ α} (h : (d.map (·.1)).Nodup) : ((putM d k a).map (·.1)).Nodup := by
  unfold putM
  rw [anyM]
  by_cases c : (valM d k).isSome = true
  · rw [if_pos c, List.map_map]
    rw [show d.map ((fun x => x.1) ∘ fun p => if p.1 = k then (p.1, a) else p) = d.map (·.1) from List.map_congr_left fun p _ => by
      show (if p.1 = k then (p.1, a) else p).1 = p.1
      split <;> rfl]
    exact h
  · rw [if_neg c, List.map_append]
    refine List.nodup_append.mpr ⟨h, List.nodup_cons.mpr ⟨by simp, List.nodup_nil⟩, fun x hx y hy e => ?_⟩
    rw [List.mem_singleton.mp hy] at e
    have e' : x = k := e
    subst e'
    exact c (mem_keys.mp hx)
theorem ctH_snoc {l : List NT4} {t : NT4} {k : Int × Int} : ctH (l ++ [t]) k = ctH l k + if hds t = k then 1 else 0 := by
  unfold ctH
  rw [List.filter_append, List.length_append]
  by_cases c : hds t = k <;> simp [c]
theorem counts_wp {l : List NT4} {Φ : Dc (Int × Int) Int → Prop} (hl : l.length ≤ 100000) (k : ∀ d, CntOk l d → Φ d) : (m_law_counts l).run Φ := by
  unfold m_law_counts
  simp only [run_bind, run_rt]
  refine forL_wp (fun t d => d.length ≤ t ∧ CntOk (l.take t) d) ⟨Nat.le_refl _, List.nodup_nil, fun k => rfl⟩ ?_ ?_
  · rintro t x d hx ⟨h1, h2⟩
    have ht := (List.getElem?_eq_some_iff.mp hx).1
    unfold m_law_counts_L1
    simp only [run_bind, run_rt]
    refine putG_wp (by omega) ⟨Nat.le_trans putM_len (Nat.succ_le_succ h1), putM_nd h2.nd, fun key => ?_⟩
    rw [take_snocN hx, ctH_snoc, valM_put, h2.vl (x.a, x.c)]
    by_cases c : key = (x.a, x.c)
    · rw [if_pos c, if_pos (show hds x = key from c.symm)]
      subst c
      by_cases z : ctH (l.take t) (x.a, x.c) = 0
      · simp [z]
      · simp [z]
    · have c' : ¬ hds x = key := fun e => c e.symm
      rw [if_neg c, if_neg c', h2.vl key]; rfl
  · rintro d ⟨h1, h2⟩
    rw [List.take_length] at h2
    exact k d h2
theorem valM_in {κ α : Type} [DecidableEq κ] : ∀ {d : Dc κ α} {p : κ × α}, (d.map (·.1)).Nodup → p ∈ d → valM d p.1 = some p.2
  | (j, a) :: d, p, hn, hp => by
    rw [valM_cons]
    rw [List.map_cons] at hn
    obtain ⟨h1, h2⟩ := List.nodup_cons.mp hn
    rcases List.mem_cons.mp hp with e | e
    · rw [e, if_pos rfl]
    · have : ¬ j = p.1 := fun e2 => h1 (by rw [e2]; exact List.mem_map.mpr ⟨p, e, rfl⟩)
      rw [if_neg this]
      exact valM_in h2 e
theorem counts_same {l l' : List NT4} {d d' : Dc (Int × Int) Int} (h : CntOk l d) (h' : CntOk l' d') (e : ∀ k, ctH l k = ctH l' k) : deqM d d' = true := by
  have vs : ∀ k, valM d k = valM d' k := fun k => by rw [h.vl, h'.vl, e]
  unfold deqM
  rw [Bool.and_eq_true]
  constructor
  · have pm : (d.map (·.1)).Perm (d'.map (·.1)) := (List.perm_ext_iff_of_nodup h.nd h'.nd).mpr fun k => by rw [mem_keys, mem_keys, vs]
    have := pm.length_eq
    rw [List.length_map, List.length_map] at this
    rw [this]; simp
  · rw [List.all_eq_true]
    intro p hp
    rw [← vs, valM_in h.nd hp]
    simp
theorem ctH_perm {l l' : List NT4} (h : (l.map hds).Perm (l'.map hds)) (k : Int × Int) : ctH l k = ctH l' k := by
  have e : ∀ l : List NT4, ctH l k = ((l.map hds).filter fun z => decide (z = k)).length := fun l => by
    rw [List.filter_map, List.length_map]; rfl
  rw [e, e]
  exact (h.filter _).length_eq
/-! all is met -/
def ToldOk (web : List (P3 Int Str Int)) (l : List NT4) : Prop := (∀ t ∈ l, NoteOk web t) ∧ ∀ i j : Nat, i < j → j < web.length → meetS (gW web i) (gW web j) = true → ∃ p r : Nat, p < r ∧ r < web.length ∧ i ≤ p ∧ r ≤ j ∧ (gW web p).a = (gW web i).a ∧ (gW web r).a = (gW web j).a ∧ ntN web ((p : Int), (r : Int)) ∈ l
theorem end_ok {t : NT4} (h : NoteOk web t) : ∃ p r : Nat, p < r ∧ r < web.length ∧ t = ntN web ((p : Int), (r : Int)) ∧ endN web t = some (p, r) := by
  obtain ⟨p, r, h1, h2, h3, rfl⟩ := h
  exact ⟨p, r, h1, h2, rfl, endN_nt h1 h2 h3 (by unfold ntN; simp only [Int.toNat_natCast]) (by unfold ntN; simp only [Int.toNat_natCast])⟩
def enI (web : List (P3 Int Str Int)) (t : NT4) : Option (Int × Int) := (endN web t).map fun p => ((p.1 : Int), (p.2 : Int))
def cJ (web : List (P3 Int Str Int)) (j : Int) (o : Option (Int × Int)) : Bool := decide ((o.getD (0, 0)).2 ≤ j) && decide ((gW web (o.getD (0, 0)).2.toNat).a = (gW web j.toNat).a)
def cI (web : List (P3 Int Str Int)) (i : Int) (o : Option (Int × Int)) : Bool := decide ((o.getD (0, 0)).1 ≥ i) && decide ((gW web (o.getD (0, 0)).1.toNat).a = (gW web i.toNat).a)
theorem met_wp {l : List NT4} {Φ : Bool → Prop} (hl : web.length ≤ 300) (hll : l.length ≤ 100000) (h : ToldOk web l) (k : Φ true) : (m_law_all_met web (nmS web) l).run Φ := by
  unfold m_law_all_met
  simp only [run_bind, run_rt, run_guard]
  refine compG_wp (fun _ => true) (enI web) (szN hll) (fun _ _ Ψ q => by exact q) (fun t _ _ Ψ q => lends_wp q) ?_
  rw [List.filter_eq_self.mpr fun _ _ => rfl]
  have hE : ∀ o ∈ l.map (enI web), ∃ p r : Nat, o = some ((p : Int), (r : Int)) ∧ p < r ∧ r < web.length := fun o ho => by
    obtain ⟨t, ht, rfl⟩ := List.mem_map.mp ho
    obtain ⟨p, r, h1, h2, -, e⟩ := end_ok (h.1 t ht)
    exact ⟨p, r, by unfold enI; rw [e]; rfl, h1, h2⟩
  have hC : ∀ i j : Nat, i < j → j < web.length → meetS (gW web i) (gW web j) = true → ∃ o ∈ l.map (enI web), cJ web (j : Int) o = true ∧ cI web (i : Int) o = true := fun i j h1 h2 h3 => by
    obtain ⟨p, r, p1, p2, p3, p4, p5, p6, p7⟩ := h.2 i j h1 h2 h3
    refine ⟨_, List.mem_map_of_mem p7, ?_⟩
    have hne : (gW web p).a ≠ (gW web r).a := by
      rw [p5, p6]
      intro e
      unfold meetS at h3
      rw [e] at h3
      simp at h3
    have e : enI web (ntN web ((p : Int), (r : Int))) = some ((p : Int), (r : Int)) := by
      unfold enI
      rw [endN_nt p1 p2 hne (by unfold ntN; simp only [Int.toNat_natCast]) (by unfold ntN; simp only [Int.toNat_natCast])]
      rfl
    rw [e]
    unfold cJ cI
    simp only [Option.getD_some, Int.toNat_natCast, Bool.and_eq_true, decide_eq_true_eq]
    exact ⟨⟨by omega, p6⟩, ⟨by omega, p5⟩⟩
  have hEl : (l.map (enI web)).length ≤ 100000 := by rw [List.length_map]; exact hll
  generalize l.map (enI web) = E at hE hC hEl
  refine ⟨⟨by decide, by decide, by omega, by omega⟩, ?_⟩
  refine forC_wp (fun _ _ => True) trivial ?_ ?_
  · intro t x s hx _
    obtain ⟨ht, rfl⟩ := rng_get hx
    have htl : t < web.length := by omega
    rw [Int.zero_add]
    unfold m_law_all_met_L2
    simp only [run_bind, run_rt, run_guard]
    refine compG_wp (cJ web (t : Int)) (fun o => o) (szN hEl) (fun o ho Ψ q => ?_) (fun _ _ _ Ψ q => by exact q) ?_
    · obtain ⟨p, r, rfl, h1, h2⟩ := hE o ho
      unfold cJ at q
      simp only [Option.getD_some, Int.toNat_natCast] at q
      simp only [run_bind, run_opt, run_if, run_rt, Option.some.injEq, exists_eq_left', gW_at (show r < web.length from h2), gW_at htl]
      by_cases c : (r : Int) ≤ (t : Int)
      · rw [if_pos (by simpa using c)]
        rw [decide_eq_true c, Bool.true_and] at q
        exact q
      · rw [if_neg (by simpa using c)]
        rw [decide_eq_false c, Bool.false_and] at q
        exact q
    · rw [List.map_id']
      refine ⟨⟨by decide, by decide, by omega, by omega⟩, ?_⟩
      refine forC_wp (fun _ _ => True) trivial ?_ ?_
      · intro u y s2 hy _
        obtain ⟨hu, rfl⟩ := rng_get hy
        have hut : u < t := by omega
        rw [Int.zero_add]
        unfold m_law_all_met_L1
        simp only [run_bind, run_rt, run_guard, run_opt, run_if, gW_at (show u < web.length by omega), gW_at htl, Option.some.injEq, exists_eq_left']
        refine law_meets_wp ?_
        by_cases c : meetS (gW web u) (gW web t) = true
        · rw [if_pos c]
          refine compG_wp (cI web (u : Int)) (fun o => o) (szN (Nat.le_trans (List.length_filter_le _ _) hEl)) (fun o ho Ψ q => ?_) (fun _ _ _ Ψ q => by exact q) ?_
          · obtain ⟨p, r, rfl, h1, h2⟩ := hE o (List.mem_filter.mp ho).1
            unfold cI at q
            simp only [Option.getD_some, Int.toNat_natCast] at q
            simp only [run_bind, run_opt, run_if, run_rt, Option.some.injEq, exists_eq_left', gW_at (show p < web.length by omega), gW_at (show u < web.length by omega)]
            by_cases c : (p : Int) ≥ (u : Int)
            · rw [if_pos (by simpa using c)]
              rw [decide_eq_true c, Bool.true_and] at q
              exact q
            · rw [if_neg (by simpa using c)]
              rw [decide_eq_false c, Bool.false_and] at q
              exact q
          · rw [List.map_id']
            refine ⟨⟨okD_pl _, okD_pl _⟩, ?_⟩
            obtain ⟨o, ho, c1, c2⟩ := hC u t hut htl c
            have hm : o ∈ (E.filter (cJ web (t : Int))).filter (cI web (u : Int)) := List.mem_filter.mpr ⟨List.mem_filter.mpr ⟨ho, c1⟩, c2⟩
            have ne : (E.filter (cJ web (t : Int))).filter (cI web (u : Int)) ≠ [] := List.ne_nil_of_mem hm
            rw [eqD_dec, decide_eq_false ne]
            exact trivial
        · rw [if_neg c]
          exact trivial
      · intro s2 _
        simp only [W.after, run_rt]
        exact trivial
  · intro s _
    simp only [W.after, run_rt]
    exact k
/-! fewer notes than wants -/
theorem fewer_wp {B : Nat} {s : Spr} {a c : Int} {many : Int} {Φ : List NT4 × Spr → Prop} (hs : SpOk B s) (hB : B < 2 ^ 39) (hl : web.length ≤ 300) (hne : a ≠ c) (hm0 : 0 ≤ many) (hm : many ≤ 100) (ha : ∃ x, x < web.length ∧ (gW web x).a = a) (hc : ∃ x, x < web.length ∧ (gW web x).a = c)
    (k : ∀ l s', (∀ t ∈ l, NoteOk web t) → (l.length : Int) ≤ many → SpOk (B + 200) s' → Φ (l, s')) : (m_law_fewer s (nmS web) (a, c) many).run Φ := by
  unfold m_law_fewer
  simp only [run_bind, run_rt, run_guard]
  have hln : (nmS web).length = web.length := nmS_len web
  have rg : rngOk 0 ((nmS web).length : Int) := ⟨by decide, by decide, by omega, by omega⟩
  have comp : ∀ (h : Int) {Ψ : List Int → Prop}, Ψ ((rng 0 ((nmS web).length : Int)).filter fun z => decide ((gW web z.toNat).a = h)) → (compG (rng 0 ((nmS web).length : Int)) (fun at_ => W.bind (W.opt (atI (nmS web) at_)) fun t3 => W.ret (decide (t3.1 = h))) (fun at_ => W.ret at_)).run Ψ := fun h {Ψ} q => by
    refine compG_wp (fun z => decide ((gW web z.toNat).a = h)) (fun z => z) (szN (by rw [rng_len]; omega)) (fun z hz Ψ' q' => ?_) (fun _ _ _ Ψ' q' => by exact q') ?_
    · obtain ⟨z0, z1⟩ := rng_mem.mp hz
      obtain ⟨x, rfl⟩ : ∃ x : Nat, z = x := ⟨z.toNat, by omega⟩
      rw [Int.toNat_natCast] at q'
      simp only [run_bind, run_opt, run_rt, nmS_at (show x < web.length by omega), Option.some.injEq, exists_eq_left']
      exact q'
    · rw [List.map_id']; exact q
  refine ⟨rg, comp a ⟨rg, comp c ?_⟩⟩
  have pos : ∀ h : Int, (∃ x, x < web.length ∧ (gW web x).a = h) → 0 < ((rng 0 ((nmS web).length : Int)).filter fun z => decide ((gW web z.toNat).a = h)).length := fun h ⟨x, x1, x2⟩ => by
    refine List.length_pos_of_mem (a := (x : Int)) (List.mem_filter.mpr ⟨rng_mem.mpr ⟨by omega, by omega⟩, ?_⟩)
    rw [Int.toNat_natCast, x2]; simp
  have len : ∀ h : Int, ((rng 0 ((nmS web).length : Int)).filter fun z => decide ((gW web z.toNat).a = h)).length ≤ 300 := fun h => by
    refine Nat.le_trans (List.length_filter_le _ _) ?_
    rw [rng_len]; omega
  have mem : ∀ (h : Int) z, z ∈ ((rng 0 ((nmS web).length : Int)).filter fun z => decide ((gW web z.toNat).a = h)) → ∃ x : Nat, z = x ∧ x < web.length ∧ (gW web x).a = h := fun h z hz => by
    obtain ⟨h1, h2⟩ := List.mem_filter.mp hz
    obtain ⟨z0, z1⟩ := rng_mem.mp h1
    exact ⟨z.toNat, by omega, by omega, of_decide_eq_true h2⟩
  have pa := pos a ha
  have pc := pos c hc
  have la := len a
  have lc := len c
  have ma := mem a
  have mc := mem c
  generalize ((rng 0 ((nmS web).length : Int)).filter fun z => decide ((gW web z.toNat).a = a)) = As at pa la ma ⊢
  generalize ((rng 0 ((nmS web).length : Int)).filter fun z => decide ((gW web z.toNat).a = c)) = Cs at pc lc mc ⊢
  refine ⟨⟨by decide, by decide, by omega, by omega⟩, ?_⟩
  refine forL_wp (fun t (q : Spr × List NT4) => SpOk (B + 2 * t) q.1 ∧ (∀ x ∈ q.2, NoteOk web x) ∧ q.2.length ≤ t) ⟨hs, by simp, Nat.le_refl _⟩ ?_ ?_
  · rintro t x ⟨sp, found⟩ hx ⟨q1, q2, q3⟩
    have ht := (List.getElem?_eq_some_iff.mp hx).1
    rw [rng_len] at ht
    dsimp only at q1 q2 q3
    unfold m_law_fewer_L1
    simp only [run_bind, run_bind2, run_rt, run_opt]
    refine draw_wp q1 (by omega) (by omega) (by omega) fun u s1 u0 u1 hs1 => ?_
    dsimp only
    obtain ⟨y, hy, ey⟩ := atI_some (xs := As) u0 u1
    refine ⟨y, ey, ?_⟩
    refine draw_wp hs1 (by omega) (by omega) (by omega) fun v s2 v0 v1 hs2 => ?_
    dsimp only
    obtain ⟨z, hz, ez⟩ := atI_some (xs := Cs) v0 v1
    refine ⟨z, ez, ?_⟩
    obtain ⟨p, rfl, p1, p2⟩ := ma y hy
    obtain ⟨r, rfl, r1, r2⟩ := mc z hz
    simp only [run_if, run_bind, run_opt, run_rt, nmS_at p1, nmS_at r1, Option.some.injEq, exists_eq_left']
    by_cases d : (p : Int) < (r : Int)
    · rw [if_pos (decide_eq_true d)]
      refine apd_wp (by omega) ⟨hs2.mo (by omega), fun x hx => ?_, by rw [List.length_append]; show _ + 1 ≤ _; omega⟩
      rcases List.mem_append.mp hx with w | w
      · exact q2 x w
      · rw [List.mem_singleton.mp w]
        exact ⟨p, r, by omega, r1, by rw [p2, r2]; exact hne, by unfold ntN; simp only [Int.toNat_natCast]⟩
    · rw [if_neg (by simpa using d)]
      exact ⟨hs2.mo (by omega), q2, Nat.le_succ_of_le q3⟩
  · rintro ⟨sp, found⟩ ⟨q1, q2, q3⟩
    rw [rng_len] at q1 q3
    dsimp only at q1 q2 q3 ⊢
    have q4 : (found.length : Int) ≤ many := by omega
    exact k _ _ q2 q4 (q1.mo (by omega))
theorem unmet_wp {ws some_ : List NT4} {Φ : Bool → Prop} (hw : ∀ t ∈ web, ToOk t) (hl : web.length ≤ 300) (hs : some_.length ≤ 1000) (h1 : ∀ t ∈ ws, wantN web t = true) (h2 : ∀ t ∈ some_, NoteOk web t) (h3 : ∃ w ∈ ws, ∀ n ∈ some_, dueN n w = false) (k : Φ true) : (m_law_one_unmet web ws some_).run Φ := by
  unfold m_law_one_unmet
  rw [run_bind]
  refine forC_any (fun w => !some_.any fun n => dueN n w) true (fun w hww Ψ q => ?_) ?_
  · unfold m_law_one_unmet_L1
    simp only [run_bind, run_rt, run_if]
    refine compG_wp (fun _ => true) (fun n => dueN n w) (szN (by omega)) (fun _ _ Ψ q => by exact q) (fun n hn _ Ψ' q' => ?_) ?_
    · obtain ⟨p, r, p1, p2, -, e⟩ := end_ok (h2 n hn)
      exact meetsX_wp hw hl e (h1 w hww) q'
    · rw [List.filter_eq_self.mpr fun _ _ => rfl]
      have e : (some_.map fun n => dueN n w).any id = some_.any fun n => dueN n w := by rw [List.any_map]; rfl
      rw [e]
      by_cases d : (!some_.any fun n => dueN n w) = true
      · rw [if_pos d] at q ⊢; exact q
      · rw [if_neg d] at q ⊢; exact q
  · obtain ⟨w, w1, w2⟩ := h3
    have e : (ws.any fun w => !some_.any fun n => dueN n w) = true := by
      rw [List.any_eq_true]
      refine ⟨w, w1, ?_⟩
      rw [Bool.not_eq_true', List.any_eq_false]
      intro n hn
      rw [w2 n hn]
      decide
    rw [if_pos e]
    simp only [W.after, run_rt]
    exact k
end
theorem law_true {ns : List Int} (hl : ns.length ≤ 63) : (m_law ns).run (fun r => r = true) := by
  unfold m_law
  simp only [run_bind, run_bind2, run_rt, run_guard]
  refine spring_wp hl fun sp hsp => ?_
  refine web_wp hsp (by decide) (by decide) (by decide) fun web sp1 hw hl2 hsp1 => ?_
  dsimp only
  have hl3 : web.length ≤ 100 := by omega
  have hw1 := hw.1
  refine calls_wp hw1 (by omega) (strict_wp hw1 (by omega) (apart_wp hw1 (by omega) ?_))
  have okw : okD web := okD_of (show ∀ t ∈ web, Lay.ok t from fun t ht => to_lay (hw1 t ht))
  simp only [run_if, run_rt, run_guard, run_bind, Bool.not_true, Bool.false_eq_true, if_false]
  refine ⟨⟨okw, okw⟩, ?_⟩
  rw [eqD_self]
  simp only [Bool.not_true, Bool.false_eq_true, if_false]
  -- what is told
  have eT : (A2 web 8).map (fun p => p.1) = (T2 web 8).map fun q => (ntF web q).1 := by rw [T2_A2, List.map_map]; rfl
  have eW : (A2 web 8).map (fun p => p.2) = (T2 web 8).map fun q => (ntF web q).2 := by rw [T2_A2, List.map_map]; rfl
  have hT : ToldOk web (srtK ((A2 web 8).map fun p => p.1)) := by
    refine ⟨fun t ht => ?_, fun i j hij hj hm => ?_⟩
    · rw [(srtK_perm _).mem_iff, eT] at ht
      obtain ⟨q, hq, rfl⟩ := List.mem_map.mp ht
      obtain ⟨l, i, A⟩ := T2_ok hq
      have h1 := A.hl; have h2 := A.hj; have h3 := A.ne
      exact ⟨l, q.2.2, A.lj, A.jn, by rw [h1, h2]; omega, A.f1⟩
    · obtain ⟨l, m, c1, c2, c3, c4, c5⟩ := cover hij hj hm
      have pr := c5.pr
      obtain ⟨e, he, e1⟩ := spr_A hw1 c5
      have := pr.ab; have := pr.b1
      dsimp only at this
      refine ⟨l, m, by have := pr.ab; dsimp only at this; omega, by omega, c1, c2, c3, c4, ?_⟩
      rw [(srtK_perm _).mem_iff]
      exact e1 ▸ List.mem_map_of_mem he
  have hN : (srtK ((A2 web 8).map fun p => p.1)).Nodup := by
    refine (srtK_perm _).nodup_iff.mpr ?_
    rw [eT]; exact told_nd
  have hL : (srtK ((A2 web 8).map fun p => p.1)).length ≤ 800 := by
    rw [(srtK_perm _).length_eq, eT, List.length_map]; exact T2_len hl3
  have hWl : ((A2 web 8).map fun p => p.2).length ≤ 800 := by rw [eW, List.length_map]; exact T2_len hl3
  have hA : apartS web ((A2 web 8).map fun p => p.2) := by rw [eW]; exact wants_apart_
  have hS : ((A2 web 8).map fun p => p.2).Pairwise (Sep web) := by rw [eW]; exact wants_sep
  have hP : ((srtK ((A2 web 8).map fun p => p.1)).map hds).Perm (((A2 web 8).map fun p => p.2).map hds) := by
    refine ((srtK_perm _).map hds).trans ?_
    rw [eT, eW, List.map_map, List.map_map]
    refine List.Perm.of_eq (List.map_congr_left fun q hq => ?_)
    obtain ⟨l, i, A⟩ := T2_ok hq
    show hds (ntF web q).1 = hds (ntF web q).2
    rw [A.f1, A.f2]
    unfold hds ntN nmN
    simp only [Int.toNat_natCast, A.hl, A.hi]
  -- hands of what is told
  have hH : ∀ t ∈ srtK ((A2 web 8).map fun p => p.1), t.a ≠ t.c ∧ (∃ x, x < web.length ∧ (gW web x).a = t.a) ∧ (∃ x, x < web.length ∧ (gW web x).a = t.c) ∧ ∃ w ∈ (A2 web 8).map (fun p => p.2), w.a = t.a ∧ w.c = t.c := fun t ht => by
    obtain ⟨p, r, h1, h2, h3, rfl⟩ := hT.1 t ht
    have e1 : (ntN web ((p : Int), (r : Int))).a = (gW web p).a := by unfold ntN nmN; simp only [Int.toNat_natCast]
    have e2 : (ntN web ((p : Int), (r : Int))).c = (gW web r).a := by unfold ntN nmN; simp only [Int.toNat_natCast]
    refine ⟨by rw [e1, e2]; exact h3, ⟨p, by omega, e1.symm⟩, ⟨r, h2, e2.symm⟩, ?_⟩
    have : hds (ntN web ((p : Int), (r : Int))) ∈ ((A2 web 8).map fun p => p.2).map hds := hP.mem_iff.mp (List.mem_map_of_mem ht)
    obtain ⟨w, hw, e⟩ := List.mem_map.mp this
    exact ⟨w, hw, congrArg Prod.fst e, congrArg Prod.snd e⟩
  generalize srtK ((A2 web 8).map fun p => p.1) = told at hT hN hL hP hH ⊢
  generalize (A2 web 8).map (fun p => p.2) = wants at hWl hA hS hP hH ⊢
  show (compG told _ _).run _
  refine compG_wp (fun _ => true) (fun t => (endN web t).isSome) (szN (by omega)) (fun _ _ Ψ q => by exact q) (fun t _ _ Ψ q => lends_wp ⟨nn, by rw [Option.isSome_map]; exact q⟩) ?_
  rw [List.filter_eq_self.mpr fun _ _ => rfl]
  have e1 : (told.map fun t => (endN web t).isSome).all id = true := by
    rw [List.all_map, List.all_eq_true]
    intro t ht
    obtain ⟨p, r, -, -, -, e⟩ := end_ok (hT.1 t ht)
    show (endN web t).isSome = true
    rw [e]; rfl
  rw [e1]
  simp only [run_if, run_rt, run_guard, run_bind, Bool.not_true, Bool.false_eq_true, if_false]
  refine ⟨by omega, ?_⟩
  have e2 : (ddK told).length = told.length := ((List.perm_ext_iff_of_nodup (ddK_nd _) hN).mpr fun x => ddK_mem).length_eq
  rw [e2]
  simp only [decide_true, Bool.not_true, Bool.false_eq_true, if_false]
  refine met_wp (by omega) (by omega) hT ?_
  simp only [run_if, run_rt, run_guard, run_bind, Bool.not_true, Bool.false_eq_true, if_false]
  refine compG_wp (fun _ => true) (wantN web) (szN (by omega)) (fun _ _ Ψ q => by exact q) (fun t _ _ Ψ q => lwant_wp q) ?_
  rw [List.filter_eq_self.mpr fun _ _ => rfl]
  have e3 : (wants.map (wantN web)).all id = true := by
    rw [List.all_map, List.all_eq_true]
    exact fun t ht => hA.1 t ht
  rw [e3]
  simp only [run_if, run_rt, run_guard, run_bind, Bool.not_true, Bool.false_eq_true, if_false]
  refine counts_wp (by omega) fun d hd => counts_wp (by omega) fun d' hd' => ?_
  rw [counts_same hd hd' (ctH_perm hP)]
  simp only [run_if, run_rt, run_guard, run_bind, Bool.not_true, Bool.false_eq_true, if_false]
  refine shows_wp hw1 (by omega) (by omega) fun b hb => ?_
  rw [hb.mpr hA]
  simp only [decide_true, Bool.not_true, Bool.false_eq_true, if_false]
  generalize hm : (1 : Int) + (if (4 : Int) < (ns.length : Int) then (4 : Int) else (ns.length : Int)) = m
  have hm8 : 0 ≤ m ∧ m ≤ 5 := by rw [← hm]; split <;> omega
  generalize hz : (if (told.length : Int) < (1 : Int) then (told.length : Int) else (1 : Int)) = z
  have hz1 : (z = 0 ∧ told.length = 0) ∨ (z = 1 ∧ 0 < told.length) := by rw [← hz]; split <;> omega
  have hmz : 0 ≤ m * z ∧ m * z ≤ 5 ∧ (told.length = 0 → m * z = 0) := by
    rcases hz1 with ⟨e, e'⟩ | ⟨e, e'⟩
    · rw [e, Int.mul_zero]; exact ⟨by decide, by decide, fun _ => rfl⟩
    · rw [e, Int.mul_one]; exact ⟨hm8.1, hm8.2, fun h => by omega⟩
  refine ⟨wide_mul (a := 4) (b := 2) (by omega) (by omega) (by decide) (by decide) (by decide), ⟨by decide, by decide, by omega, by omega⟩, ?_⟩
  refine forC_wp (fun i s => SpOk (2000 + 1000 * i) s) (hsp1.mo (by decide)) ?_ ?_
  · intro i x s hx hs
    have hi := (List.getElem?_eq_some_iff.mp hx).1
    rw [rng_len] at hi
    have htp : 0 < told.length := by
      rcases Nat.eq_zero_or_pos told.length with e | e
      · have := hmz.2.2 e; omega
      · exact e
    unfold m_law_L1
    simp only [run_bind, run_bind2, run_rt, run_opt]
    refine draw_wp hs (by omega) (by omega) (by omega) fun u s1 u0 u1 hs1 => ?_
    dsimp only
    obtain ⟨t, ht, et⟩ := atI_some (xs := told) u0 u1
    refine ⟨t, et, ?_⟩
    obtain ⟨ne, ha, hc, w, hww, wa, wc⟩ := hH t ht
    refine compG_wp (fun w => decide (w.a = t.a) && decide (w.c = t.c)) (fun w => w) (szN (by omega)) (fun _ _ Ψ q => by exact q) (fun _ _ _ Ψ q => by exact q) ?_
    rw [List.map_id']
    have f1 : w ∈ wants.filter fun w => decide (w.a = t.a) && decide (w.c = t.c) := List.mem_filter.mpr ⟨hww, by rw [wa, wc]; simp⟩
    have f2 := List.length_pos_of_mem f1
    have f3 : (wants.filter fun w => decide (w.a = t.a) && decide (w.c = t.c)).length ≤ 800 := Nat.le_trans (List.length_filter_le _ _) hWl
    have f4 : (wants.filter fun w => decide (w.a = t.a) && decide (w.c = t.c)).Pairwise (Sep web) := hS.filter _
    have f5 : ∀ w ∈ wants.filter (fun w => decide (w.a = t.a) && decide (w.c = t.c)), wantN web w = true := fun w hw => hA.1 w (List.mem_filter.mp hw).1
    generalize wants.filter (fun w => decide (w.a = t.a) && decide (w.c = t.c)) = these at f2 f3 f4 f5 ⊢
    refine draw_wp hs1 (by omega) (by omega) (by omega) fun b s2 b0 b1 hs2 => ?_
    dsimp only
    rw [cut_to b0, cut_from b0, cut_to (by decide)]
    have pm : (these.drop b.toNat ++ these.take b.toNat).Perm these := by
      refine List.perm_append_comm.trans ?_
      rw [List.take_append_drop]
    have g4 : ((these.drop b.toNat ++ these.take b.toNat).take 12).Pairwise (Sep web) := ((pm.pairwise_iff (R := Sep web) fun {x y} h => h.symm).mpr f4).sublist (List.take_sublist _ _)
    have g5 : ∀ w ∈ (these.drop b.toNat ++ these.take b.toNat).take 12, wantN web w = true := fun w hw => f5 w (pm.mem_iff.mp (List.mem_of_mem_take hw))
    have g2 : 0 < ((these.drop b.toNat ++ these.take b.toNat).take 12).length ∧ ((these.drop b.toNat ++ these.take b.toNat).take 12).length ≤ 12 := by
      rw [List.length_take, pm.length_eq]; omega
    refine ⟨szN (by rw [List.length_drop, List.length_take]; omega), ?_⟩
    rw [show ((12 : Int)).toNat = 12 from rfl]
    generalize (these.drop b.toNat ++ these.take b.toNat).take 12 = TS at g2 g4 g5 ⊢
    refine fewer_wp hs2 (by omega) (by omega) ne (by omega) (by omega) ha hc fun l s3 l1 l2 hs3 => ?_
    dsimp only
    refine unmet_wp hw1 (by omega) (by omega) g5 l1 ?_ ?_
    · refine Classical.byContradiction fun q => ?_
      have := pigeon (f := dueN) (l := TS) (s := l) (g4.imp fun h n hn => h n (l1 n hn)) fun w hw => Classical.byContradiction fun z => q ⟨w, hw, fun n hn => by
        cases c : dueN n w with
        | false => rfl
        | true => exact absurd ⟨n, hn, c⟩ z⟩
      omega
    · simp only [run_if, run_rt, Bool.not_true, Bool.false_eq_true, if_false]
      exact hs3.mo (by omega)
  · intro s hs
    simp only [W.after, run_rt, run_guard]
    exact ⟨⟨okw, okw⟩, trivial⟩
end M

namespace M
open PySem L2 Z
section
def topS (i : Nat) : Stmt := PySem.Challenge.pw_fewnotes_k33_whole_no_fewer_strict_notes.main.body.getD i (.Pass ⟨0, 0, 0, 0⟩)
variable {P : Program} {w : World} {K : PySem.W.Frag} {mg : Str → Option Value} {base : Heap} {cl : Nat → Addr}
def sp_names (K : PySem.W.Frag) (cl : Nat → Addr) : Sp := fun vs H Q E => ∃ (amb : Grp) (Ho : Hp) (v0 : V) (x0 : (List (P3 Int Str Int))), vs = [v0] ∧ Zs amb H Ho ∧ LV K amb Ho v0 x0 ∧ (m_names x0).run fun r => ∀ v H' Ho', Same Ho Ho' → Zs amb H' Ho' → Z.D K Ho' v r → Q v H'
abbrev s_names : Stmt := topS 5
theorem sc_names : FnScope ["web", "many", "found", "hand", "kind", "cell"] ["web"] (defScope s_names) := ⟨rfl, rfl, rfl, by decide +kernel, rfl, by decide +kernel, by decide +kernel⟩
theorem ok_names {f : Addr} {fd : FuncData} (F : Fun K "names" "names" s_names f fd) {tk_HANDS : Tok} (g_HANDS : mg "HANDS" = some (.int 8 tk_HANDS)) :
    FnOk P w K mg base CX0 1 f fd ["web"] (sp_names K cl) := by
  refine F.ok sc_names (fun vs H Q E h => ?_) (fun cdv A outer s H vs Q E hr h => ?_)
  · obtain ⟨amb, Ho, v_web_, web_, rfl, _⟩ := h
    rfl
  · obtain ⟨amb, Ho, v_web_, web_, rfl, z, d_web_, hw⟩ := h
    refine ⟨_, pss_cons (ps_set (i := 1) sc_names.nd rfl (Or.inl rfl) (pe_op op_rep (pe_lst (pa_cons (pe_int) (pa_nil))) (pe_glob (v := .int 8) rfl g_HANDS ⟨_, rfl⟩))) (pss_cons (ps_set (i := 2) sc_names.nd rfl (Or.inl rfl) (pe_lst (pa_nil))) (pss_cons (ps_for PassesOwn.never rfl (zpi_list (K := K) rfl (pv 0)) (zpg_tup (K := K) (n := 3) rfl rfl (pgs_cons (pg_name (i := 3) sc_names.nd rfl (Or.inl rfl)) (pgs_cons (pg_name (i := 4) sc_names.nd rfl (Or.inl rfl)) (pgs_cons (pg_name (i := 5) sc_names.nd rfl (Or.inl rfl)) (pgs_nil))))) (pss_cons (ps_expr (pe_bm PySem.F.plainAttrs_list PySem.F.slot_list_append PySem.F.type_list_append mt_append (pv 2) (pa_cons (pe_tup (pa_cons (pv 3) (pa_cons (pe_ix (zix_list (K := K) rfl) (pv 1) (pv 3) (fun _ _ => rfl)) (pa_nil)))) (pa_nil)))) (pss_cons (ps_augS (pv 1) (pv 3) (zget_list (K := K) rfl) (pe_int) ip_add set_list) (pss_nil)))) (pss_cons (ps_ret (pv 2)) (pss_nil)))), ?_⟩
    refine l_asg (fun v => [_, some v, _, _, _, _]) (fun _ => rfl) ?_
    refine y_op ?_
    refine k_lst ?_
    refine y_cons ?_
    refine y_c ?_
    refine y_nil ?_
    refine k_lstk (K := K) (xs := ([(0 : Int)] : (List Int))) z (DqAll.cons (Dq.int _) DqAll.nil) (by show 1 ≤ sizeLine; decide) (fun H p1 ws2 z d3 => ?_)
    replace z : Zs ([(p1, HO.lst ws2)] ++ amb) H Ho := z
    have o4 := OL.mk (p := p1) d3
    refine y_c ?_
    refine y_rep z d3 hw.1 (fun H p5 ws6 z d7 => ?_)
    replace hw := (run_gd hw).2
    replace z : Zs ([(p5, HO.lst ws6)] ++ amb) H Ho := z
    have o8 := OL.mk (p := p5) d7
    refine l_o hw z o8 (fun many_ v_many_ g_many_ z d_many_ hw => ?_)
    refine l_asg (fun v => [_, _, some v, _, _, _]) (fun _ => rfl) ?_
    refine k_lst ?_
    refine y_nil ?_
    refine k_lstk (K := K) (xs := ([] : (List (Int × Int)))) z DqAll.nil (by show 0 ≤ sizeLine; decide) (fun H p9 ws10 z d11 => ?_)
    replace z : Zs ([(p9, HO.lst ws10)] ++ (g_many_ ++ amb)) H Ho := z
    have o12 := OL.mk (p := p9) d11
    refine l_o hw z o12 (fun found_ v_found_ g_found_ z d_found_ hw => ?_)
    refine y_for ?_
    refine k_iList ?_
    refine y_var rfl ?_
    refine k_srcL (r0 := amb) (LV.sub d_web_ mgE) (mgS (mgS mgE)) z (fun J T => ?_)
    refine y_forL T hw (fun (s : (List Int) × (List (Int × Int))) (σ : L2.St) (H Ho : Hp) => ∃ (g_many_ : Grp) (g_found_ : Grp) (y_hand_ : Option V) (y_kind_ : Option V) (y_cell_ : Option V), σ = [some v_web_, some v_many_, some v_found_, y_hand_, y_kind_, y_cell_] ∧ Zs (g_found_ ++ (g_many_ ++ amb)) H Ho ∧ OL K Ho v_many_ s.1 g_many_ ∧ OL K Ho v_found_ s.2 g_found_) ⟨_, _, _, _, _, rfl, z, d_many_, d_found_⟩ ?_ ?_ ?_ ?_
    · intro s σ H Ho hI
      obtain ⟨many_, found_⟩ := s
      obtain ⟨g_many_, g_found_, y_hand_, y_kind_, y_cell_, rfl, z, d_many_, d_found_⟩ := hI
      exact ⟨_, z, (mgS (mgS mgE))⟩
    · intro s σ H Ho H2 Ho2 hI e t
      obtain ⟨many_, found_⟩ := s
      obtain ⟨g_many_, g_found_, y_hand_, y_kind_, y_cell_, rfl, z, d_many_, d_found_⟩ := hI
      exact ⟨_, _, _, _, _, rfl, t _ z, OL.mo d_many_ e, OL.mo d_found_ e⟩
    · intro a x s σ H Ho N e hI dx hw
      obtain ⟨many_, found_⟩ := s
      obtain ⟨g_many_, g_found_, y_hand_, y_kind_, y_cell_, rfl, z, d_many_, d_found_⟩ := hI
      have es13 := (Same.refl _).trans e
      obtain ⟨hand_, kind_, cell_⟩ := a
      refine c_gt3 (fun v_hand_ v_kind_ v_cell_ => [some v_web_, some v_many_, some v_found_, some v_hand_, some v_kind_, some v_cell_]) (fun _ _ _ => rfl) dx z (fun v_hand_ v_kind_ v_cell_ d_hand_ d_kind_ d_cell_ => ?_)
      obtain rfl := d_int d_hand_
      obtain rfl := d_str d_kind_
      obtain rfl := d_int d_cell_
      refine y_drop ?_
      refine y_bm ?_
      refine y_var rfl ?_
      refine g_tyL (OL.lv d_found_ mg0) z ?_
      refine y_cons ?_
      refine k_tup ?_
      refine y_cons ?_
      refine y_var rfl ?_
      refine y_cons ?_
      refine y_op ?_
      refine y_var rfl ?_
      refine y_var rfl ?_
      refine y_ixL (OL.lv d_many_ (mgS mg0)) z hw (fun t14 w d15 hw => ?_)
      first | obtain rfl := d_int d15 | cases d_int d15
      refine y_nil ?_
      refine k_tupk (K := K) (x := (hand_, t14)) z (by show 2 ≤ sizeLine; decide) _ rfl (DqAll.cons (Dq.int _) (DqAll.cons (Dq.int _) DqAll.nil)) (fun p H Ho e z d16 => ?_)
      replace d_found_ := OL.mo d_found_ e
      replace d_many_ := OL.mo d_many_ e
      have es17 := (Same.refl _).trans e
      refine y_nil ?_
      refine g_app z d_found_ d16 hw (fun found_ g_found_ H z d_found_ hw => ?_)
      refine y_augS ?_
      refine y_var rfl ?_
      refine y_var rfl ?_
      refine y_ixL (OL.lv d_many_ (mgS mg0)) z hw (fun t18 w d19 hw => ?_)
      obtain rfl := d_int d19
      refine y_c ?_
      refine y_ip ?_
      replace z : Zs (g_many_ ++ (g_found_ ++ amb)) _ _ := z.go [g_found_, g_many_] amb [1, 0]
      refine g_sti z d_many_ (Dq.int _) hw (fun many_ g_many_ H z d_many_ hw => ?_)
      replace z : Zs (g_found_ ++ (g_many_ ++ amb)) _ _ := z.go [g_many_, g_found_] amb [1, 0]
      exact (run_ret hw) _ _ _ es17 ⟨_, _, _, _, _, rfl, z, d_many_, d_found_⟩
    intro s σ H Ho e hI hw
    obtain ⟨many_, found_⟩ := s
    obtain ⟨g_many_, g_found_, y_hand_, y_kind_, y_cell_, rfl, z, d_many_, d_found_⟩ := hI
    have es20 := (Same.refl _).trans e
    refine y_ret ?_
    refine y_var rfl ?_
    refine l_fr d_found_ z (fun Ho e z d_found_ => ?_)
    replace d_many_ := OL.mo d_many_ e
    have es21 := es20.trans e
    replace z : Zs amb _ _ := z.go [g_many_] amb []
    exact (run_ret hw) _ _ _ es21 z d_found_
def sp_places_of (K : PySem.W.Frag) (cl : Nat → Addr) : Sp := fun vs H Q E => ∃ (amb : Grp) (Ho : Hp) (v0 : V) (x0 : (List (P3 Int Str Int))), vs = [v0] ∧ Zs amb H Ho ∧ LV K amb Ho v0 x0 ∧ (m_places_of x0).run fun r => ∀ v g H' Ho', Same Ho Ho' → Zs (g ++ amb) H' Ho' → OD K Ho' v r g → Q v H'
abbrev s_places_of : Stmt := topS 6
theorem sc_places_of : FnScope ["web", "called", "found", "place"] ["web"] (defScope s_places_of) := ⟨rfl, rfl, rfl, by decide +kernel, rfl, by decide +kernel, by decide +kernel⟩
theorem ok_places_of {f : Addr} {fd : FuncData} (F : Fun K "places_of" "places_of" s_places_of f fd) {f_names : Addr} {fd_names : FuncData} (c_names : Cal P w K mg base CX0 "names" ["web"] 1 (sp_names K cl) f_names fd_names) (m_len : mg "len" = none) (m_range : mg "range" = none) :
    FnOk P w K mg base CX0 2 f fd ["web"] (sp_places_of K cl) := by
  refine F.ok sc_places_of (fun vs H Q E h => ?_) (fun cdv A outer s H vs Q E hr h => ?_)
  · obtain ⟨amb, Ho, v_web_, web_, rfl, _⟩ := h
    rfl
  · obtain ⟨amb, Ho, v_web_, web_, rfl, z, d_web_, hw⟩ := h
    refine ⟨_, pss_cons (ps_set (i := 1) sc_places_of.nd rfl (Or.inl rfl) (pe_call c_names.ok (hr.mono (by decide)) (by rfl) c_names.g c_names.kp c_names.b .nil pass0 (pa_cons (pv 0) (pa_nil)))) (pss_cons (ps_set (i := 2) sc_places_of.nd rfl (Or.inl rfl) (pe_dnewT)) (pss_cons (ps_for PassesOwn.never rfl (pi_range1 (by rfl) m_range (pa_cons (pe_callB (zlen (K := K) rfl) (by rfl) m_len (by decide +kernel) (pa_cons (pv 0) (pa_nil))) (pa_nil))) (pg_name (i := 3) sc_places_of.nd rfl (Or.inl rfl)) (pss_cons (ps_dput (room1 hr) (pv 2) (pe_ix (zix_list (K := K) rfl) (pv 1) (pv 3) (fun _ _ => rfl)) (pv 3) (by rfl)) (pss_nil))) (pss_cons (ps_ret (pv 2)) (pss_nil)))), ?_⟩
    refine l_asg (fun v => [_, some v, _, _]) (fun _ => rfl) ?_
    refine y_call ?_
    refine y_cons ?_
    refine y_var rfl ?_
    refine y_nil ?_
    refine ⟨amb, _, _, _, rfl, z, (LV.sub d_web_ mgE), ?_⟩
    refine run_mono3 hw (fun t1 hw v H Ho e z d2 => ?_)
    replace d_web_ := LV.mo d_web_ e
    have es4 := (Same.refl _).trans e
    refine l_d (K := K) (Ho := Ho) hw d2 (fun called_ v_called_ d_called_ hw => ?_)
    refine l_asg (fun v => [_, _, some v, _]) (fun _ => rfl) ?_
    refine g_dnewT (K := K) (α := Int) z (fun H v5 g6 z o7 => ?_)
    refine d_o hw z o7 (fun found_ v_found_ g_found_ z d_found_ hw => ?_)
    refine y_for ?_
    refine k_iR1 ?_
    refine y_cons ?_
    refine y_cb ?_
    refine y_cons ?_
    refine y_var rfl ?_
    refine y_nil ?_
    refine y_len (LV.sub d_web_ (mgS mgE)) z ?_
    refine y_nil ?_
    refine k_srcR1 (K := K) (Ho := Ho) hw.1 (fun J T => ?_)
    replace hw := (run_gd hw).2
    refine y_forL T hw (fun (s : (Dc (Int × Int) Int)) (σ : L2.St) (H Ho : Hp) => ∃ (g_found_ : Grp) (y_place_ : Option V), σ = [some v_web_, some v_called_, some v_found_, y_place_] ∧ Zs (g_found_ ++ amb) H Ho ∧ OD K Ho v_found_ s g_found_) ⟨_, _, rfl, z, d_found_⟩ ?_ ?_ ?_ ?_
    · intro s σ H Ho hI
      obtain ⟨g_found_, y_place_, rfl, z, d_found_⟩ := hI
      exact ⟨_, z, mgN⟩
    · intro s σ H Ho H2 Ho2 hI e t
      obtain ⟨g_found_, y_place_, rfl, z, d_found_⟩ := hI
      exact ⟨_, _, rfl, t _ z, OD.mo d_found_ e⟩
    · intro place_ v_place_ s σ H Ho N e hI d_place_ hw
      obtain ⟨found_, rfl⟩ : ∃ q, q = s := ⟨_, rfl⟩
      obtain ⟨g_found_, y_place_, rfl, z, d_found_⟩ := hI
      replace d_called_ := D.mo d_called_ e
      have es8 := es4.trans e
      obtain rfl := d_int d_place_
      refine y_gname (σ' := [some v_web_, some v_called_, some v_found_, some (V.int place_)]) rfl ?_
      refine y_dput ?_
      refine y_var rfl ?_
      refine y_var rfl ?_
      refine y_op ?_
      refine y_var rfl ?_
      refine y_var rfl ?_
      refine y_ixL (LV.of d_called_) z hw (fun t9 w d10 hw => ?_)
      refine g_dput z d_found_ d10 (Dq.int _) hw (fun found_ g_found_ H z d_found_ hw => ?_)
      exact (run_ret hw) _ _ _ (Same.refl _) ⟨_, _, rfl, z, d_found_⟩
    intro s σ H Ho e hI hw
    obtain ⟨found_, rfl⟩ : ∃ q, q = s := ⟨_, rfl⟩
    obtain ⟨g_found_, y_place_, rfl, z, d_found_⟩ := hI
    have es11 := es4.trans e
    refine y_ret ?_
    refine y_var rfl ?_
    exact (run_ret hw) _ _ _ _ es11 z d_found_
def sp_touches_meet (K : PySem.W.Frag) (cl : Nat → Addr) : Sp := fun vs H Q E => ∃ (amb : Grp) (Ho : Hp) (v0 : V) (x0 : (P3 Int Str Int)) (v1 : V) (x1 : (P3 Int Str Int)), vs = [v0, v1] ∧ Zs amb H Ho ∧ Z.D K Ho v0 x0 ∧ Z.D K Ho v1 x1 ∧ (m_touches_meet x0 x1).run fun r => ∀ v H' Ho', Same Ho Ho' → Zs amb H' Ho' → Z.D K Ho' v r → Q v H'
abbrev s_touches_meet : Stmt := topS 7
theorem sc_touches_meet : FnScope ["one", "other"] ["one", "other"] (defScope s_touches_meet) := ⟨rfl, rfl, rfl, by decide +kernel, rfl, by decide +kernel, by decide +kernel⟩
theorem ok_touches_meet {f : Addr} {fd : FuncData} (F : Fun K "touches_meet" "touches_meet" s_touches_meet f fd) :
    FnOk P w K mg base CX0 1 f fd ["one", "other"] (sp_touches_meet K cl) := by
  refine F.ok sc_touches_meet (fun vs H Q E h => ?_) (fun cdv A outer s H vs Q E hr h => ?_)
  · obtain ⟨amb, Ho, v_one_, one_, v_other_, other_, rfl, _⟩ := h
    rfl
  · obtain ⟨amb, Ho, v_one_, one_, v_other_, other_, rfl, z, d_one_, d_other_, hw⟩ := h
    refine ⟨_, pss_cons (ps_if (PW.pt (pw_or (pt_cmpR (op_eq) (pe_ix (zix_tup (K := K) rfl) (pv 0) (pe_int) (fun _ _ => rfl)) (pe_ix (zix_tup (K := K) rfl) (pv 1) (pe_int) (fun _ _ => rfl)) (nomark _)) (pw_or1 (pt_cmpR (op_ne) (pe_ix (zix_tup (K := K) rfl) (pv 0) (pe_int) (fun _ _ => rfl)) (pe_ix (zix_tup (K := K) rfl) (pv 1) (pe_int) (fun _ _ => rfl)) (nomark _))))) (pss_cons (ps_ret (pe_bl)) (pss_nil)) (pss_nil)) (pss_cons (ps_ret (pe_or (pe_cmpR (op_ne) (pe_ix (zix_tup (K := K) rfl) (pv 0) (pe_int) (fun _ _ => rfl)) (pe_str) (nomark _)) (pe_one (pe_cmpR (op_ne) (pe_ix (zix_tup (K := K) rfl) (pv 1) (pe_int) (fun _ _ => rfl)) (pe_str) (nomark _))))) (pss_nil)), ?_⟩
    refine y_ifS ?_
    refine y_or ?_
    refine y_test ?_
    refine y_op ?_
    refine y_op ?_
    refine y_var rfl ?_
    refine y_c ?_
    refine y_ixT (y := one_.a) d_one_ z ⟨_, rfl, rfl⟩ (fun w d1 => ?_)
    first | obtain rfl := d_int d1 | cases d_int d1
    refine y_op ?_
    refine y_var rfl ?_
    refine y_c ?_
    refine y_ixT (y := other_.a) d_other_ z ⟨_, rfl, rfl⟩ (fun w d2 => ?_)
    first | obtain rfl := d_int d2 | cases d_int d2
    refine y_eqi ?_
    refine ⟨_, rfl, ?_⟩
    refine w_orP (a := (decide (one_.a = other_.a))) (!decide (one_.c = other_.c)) (fun hb hq => ?_) ?_
    · refine y_test ?_
      refine y_op ?_
      refine y_op ?_
      refine y_var rfl ?_
      refine y_c ?_
      refine y_ixT (y := one_.c) d_one_ z ⟨_, rfl, rfl⟩ (fun w d3 => ?_)
      first | obtain rfl := d_int d3 | cases d_int d3
      refine y_op ?_
      refine y_var rfl ?_
      refine y_c ?_
      refine y_ixT (y := other_.c) d_other_ z ⟨_, rfl, rfl⟩ (fun w d4 => ?_)
      first | obtain rfl := d_int d4 | cases d_int d4
      refine y_nei ?_
      refine ⟨_, rfl, ?_⟩
      exact hq
    refine y_cases hw (fun hb hw => ?_) (fun hb hw => ?_)
    · refine y_ret ?_
      refine y_c ?_
      exact (run_ret hw) _ _ _ (Same.refl _) z (Dq.bl _)
    · refine y_nxS ?_
      refine y_ret ?_
      refine y_orV ?_
      refine y_op ?_
      refine y_op ?_
      refine y_var rfl ?_
      refine y_c ?_
      refine y_ixT (y := one_.b) d_one_ z ⟨_, rfl, rfl⟩ (fun w d5 => ?_)
      first | obtain rfl := d_str d5 | cases d_str d5
      refine y_c ?_
      refine y_nes ?_
      refine ⟨_, rfl, ?_⟩
      refine w_orPV (a := (!decide (one_.b = ("load" : Str)))) (!decide (other_.b = ("load" : Str))) (fun hb hq => ?_) ?_
      · refine y_op ?_
        refine y_op ?_
        refine y_var rfl ?_
        refine y_c ?_
        refine y_ixT (y := other_.b) d_other_ z ⟨_, rfl, rfl⟩ (fun w d6 => ?_)
        first | obtain rfl := d_str d6 | cases d_str d6
        refine y_c ?_
        refine y_nes ?_
        exact hq
      exact (run_ret hw) _ _ _ (Same.refl _) z (Dq.bl _)
def sp_ends_of (K : PySem.W.Frag) (cl : Nat → Addr) : Sp := fun vs H Q E => ∃ (amb : Grp) (Ho : Hp) (v0 : V) (x0 : (Dc (Int × Int) Int)) (v1 : V) (x1 : (P4 Int Int Int Int)), vs = [v0, v1] ∧ Zs amb H Ho ∧ BD K amb Ho v0 x0 ∧ Z.D K Ho v1 x1 ∧ (m_ends_of x0 x1).run fun r => ∀ v H' Ho', Same Ho Ho' → Zs amb H' Ho' → Z.D K Ho' v r → Q v H'
abbrev s_ends_of : Stmt := topS 9
theorem sc_ends_of : FnScope ["places", "note", "one", "other"] ["places", "note"] (defScope s_ends_of) := ⟨rfl, rfl, rfl, by decide +kernel, rfl, by decide +kernel, by decide +kernel⟩
theorem ok_ends_of {f : Addr} {fd : FuncData} (F : Fun K "ends_of" "ends_of" s_ends_of f fd) :
    FnOk P w K mg base CX0 1 f fd ["places", "note"] (sp_ends_of K cl) := by
  refine F.ok sc_ends_of (fun vs H Q E h => ?_) (fun cdv A outer s H vs Q E hr h => ?_)
  · obtain ⟨amb, Ho, v_places_, places_, v_note_, note_, rfl, _⟩ := h
    rfl
  · obtain ⟨amb, Ho, v_places_, places_, v_note_, note_, rfl, z, d_places_, d_note_, hw⟩ := h
    refine ⟨_, pss_cons (ps_set (i := 2) sc_ends_of.nd rfl (Or.inl rfl) (pe_dget1 (room1 hr) (pv 0) (pe_tup (pa_cons (pe_ix (zix_tup (K := K) rfl) (pv 1) (pe_int) (fun _ _ => rfl)) (pa_cons (pe_ix (zix_tup (K := K) rfl) (pv 1) (pe_int) (fun _ _ => rfl)) (pa_nil)))) ⟨by rfl, by rfl, by rfl, by rfl⟩)) (pss_cons (ps_set (i := 3) sc_ends_of.nd rfl (Or.inl rfl) (pe_dget1 (room1 hr) (pv 0) (pe_tup (pa_cons (pe_ix (zix_tup (K := K) rfl) (pv 1) (pe_int) (fun _ _ => rfl)) (pa_cons (pe_ix (zix_tup (K := K) rfl) (pv 1) (pe_int) (fun _ _ => rfl)) (pa_nil)))) ⟨by rfl, by rfl, by rfl, by rfl⟩)) (pss_cons (ps_if (PW.pt (pw_or (pt_cmpR (op_eq) (pe_ix (zix_tup (K := K) rfl) (pv 1) (pe_int) (fun _ _ => rfl)) (pe_ix (zix_tup (K := K) rfl) (pv 1) (pe_int) (fun _ _ => rfl)) (nomark _)) (pw_or (pt_cmpR (op_isN) (pv 2) (pe_non) (nomark _)) (pw_or (pt_cmpR (op_isN) (pv 3) (pe_non) (nomark _)) (pw_or1 (pt_cmpR (op_ge) (pv 2) (pv 3) (nomark _))))))) (pss_cons (ps_never) (pss_nil)) (pss_nil)) (pss_cons (ps_ret (pe_tup (pa_cons (pv 2) (pa_cons (pv 3) (pa_nil))))) (pss_nil)))), ?_⟩
    refine l_asg (fun v => [_, _, some v, _]) (fun _ => rfl) ?_
    refine y_dget1 ?_
    refine y_var rfl ?_
    refine g_isd (BD.sub d_places_ mgE) z (fun a1 ea1 => ?_)
    refine k_tup ?_
    refine y_cons ?_
    refine y_op ?_
    refine y_var rfl ?_
    refine y_c ?_
    refine y_ixT (y := note_.a) d_note_ z ⟨_, rfl, rfl⟩ (fun w d2 => ?_)
    first | obtain rfl := d_int d2 | cases d_int d2
    refine y_cons ?_
    refine y_op ?_
    refine y_var rfl ?_
    refine y_c ?_
    refine y_ixT (y := note_.b) d_note_ z ⟨_, rfl, rfl⟩ (fun w d3 => ?_)
    first | obtain rfl := d_int d3 | cases d_int d3
    refine y_nil ?_
    refine k_tupk (K := K) (x := (note_.a, note_.b)) z (by show 2 ≤ sizeLine; decide) _ rfl (DqAll.cons (Dq.int _) (DqAll.cons (Dq.int _) DqAll.nil)) (fun p H Ho e z d4 => ?_)
    replace d_note_ := D.mo d_note_ e
    replace d_places_ := BD.mo d_places_ e
    have es5 := (Same.refl _).trans e
    refine g_dget1 ea1 (BD.sub d_places_ mgE) z d4 (fun w d6 => ?_)
    refine l_d (K := K) (Ho := Ho) hw d6 (fun one_ v_one_ d_one_ hw => ?_)
    refine l_asg (fun v => [_, _, _, some v]) (fun _ => rfl) ?_
    refine y_dget1 ?_
    refine y_var rfl ?_
    refine g_isd (BD.sub d_places_ mgE) z (fun a7 ea7 => ?_)
    refine k_tup ?_
    refine y_cons ?_
    refine y_op ?_
    refine y_var rfl ?_
    refine y_c ?_
    refine y_ixT (y := note_.c) d_note_ z ⟨_, rfl, rfl⟩ (fun w d8 => ?_)
    first | obtain rfl := d_int d8 | cases d_int d8
    refine y_cons ?_
    refine y_op ?_
    refine y_var rfl ?_
    refine y_c ?_
    refine y_ixT (y := note_.d) d_note_ z ⟨_, rfl, rfl⟩ (fun w d9 => ?_)
    first | obtain rfl := d_int d9 | cases d_int d9
    refine y_nil ?_
    refine k_tupk (K := K) (x := (note_.c, note_.d)) z (by show 2 ≤ sizeLine; decide) _ rfl (DqAll.cons (Dq.int _) (DqAll.cons (Dq.int _) DqAll.nil)) (fun p H Ho e z d10 => ?_)
    replace d_note_ := D.mo d_note_ e
    replace d_one_ := D.mo d_one_ e
    replace d_places_ := BD.mo d_places_ e
    have es11 := es5.trans e
    refine g_dget1 ea7 (BD.sub d_places_ mgE) z d10 (fun w d12 => ?_)
    refine l_d (K := K) (Ho := Ho) hw d12 (fun other_ v_other_ d_other_ hw => ?_)
    refine y_ifS ?_
    refine y_or ?_
    refine y_test ?_
    refine y_op ?_
    refine y_op ?_
    refine y_var rfl ?_
    refine y_c ?_
    refine y_ixT (y := note_.a) d_note_ z ⟨_, rfl, rfl⟩ (fun w d13 => ?_)
    first | obtain rfl := d_int d13 | cases d_int d13
    refine y_op ?_
    refine y_var rfl ?_
    refine y_c ?_
    refine y_ixT (y := note_.c) d_note_ z ⟨_, rfl, rfl⟩ (fun w d14 => ?_)
    first | obtain rfl := d_int d14 | cases d_int d14
    refine y_eqi ?_
    refine ⟨_, rfl, ?_⟩
    refine w_orJ hw (fun (s : Bool) (v : Bool) (H2 : Hp) => ∃ (Ho2 : Hp), Same Ho Ho2 ∧ Zs amb H2 Ho2 ∧ v = s) (fun hb hw => ?_) (fun hb hw => ?_) ?_
    · exact (run_ret hw) _ _ ⟨_, (Same.refl _), z, rfl⟩
    · refine y_or ?_
      refine y_test ?_
      refine y_op ?_
      refine y_var rfl ?_
      refine y_c ?_
      refine ⟨rfl, ?_⟩
      rw [dec_non d_one_ hw.1]
      replace hw := (run_gd hw).2
      refine ⟨_, rfl, ?_⟩
      refine w_orJ hw (fun (s : Bool) (v : Bool) (H2 : Hp) => ∃ (Ho2 : Hp), Same Ho Ho2 ∧ Zs amb H2 Ho2 ∧ v = s) (fun hb hw => ?_) (fun hb hw => ?_) ?_
      · exact (run_ret hw) _ _ ⟨_, (Same.refl _), z, rfl⟩
      · refine y_or ?_
        refine y_test ?_
        refine y_op ?_
        refine y_var rfl ?_
        refine y_c ?_
        refine ⟨rfl, ?_⟩
        rw [dec_non d_other_ hw.1]
        replace hw := (run_gd hw).2
        refine ⟨_, rfl, ?_⟩
        refine w_orJ hw (fun (s : Bool) (v : Bool) (H2 : Hp) => ∃ (Ho2 : Hp), Same Ho Ho2 ∧ Zs amb H2 Ho2 ∧ v = s) (fun hb hw => ?_) (fun hb hw => ?_) ?_
        · exact (run_ret hw) _ _ ⟨_, (Same.refl _), z, rfl⟩
        · refine y_test ?_
          refine y_op ?_
          refine y_var rfl ?_
          refine y_get d_one_ hw (fun t15 d16 hw => ?_)
          first | obtain rfl := d_int d16 | cases d_int d16
          refine y_var rfl ?_
          refine y_get d_other_ hw (fun t17 d18 hw => ?_)
          first | obtain rfl := d_int d18 | cases d_int d18
          refine y_i0 ?_
          refine ⟨_, rfl, ?_⟩
          exact (run_ret hw) _ _ ⟨_, (Same.refl _), z, rfl⟩
        rintro t19 v H ⟨Ho, e, z, rfl⟩ hw
        replace d_one_ := D.mo d_one_ e
        replace d_other_ := D.mo d_other_ e
        have es22 := (Same.refl _).trans e
        exact (run_ret hw) _ _ ⟨_, es22, z, rfl⟩
      rintro t23 v H ⟨Ho, e, z, rfl⟩ hw
      replace d_one_ := D.mo d_one_ e
      replace d_other_ := D.mo d_other_ e
      have es26 := (Same.refl _).trans e
      exact (run_ret hw) _ _ ⟨_, es26, z, rfl⟩
    rintro t27 v H ⟨Ho, e, z, rfl⟩ hw
    replace d_one_ := D.mo d_one_ e
    replace d_other_ := D.mo d_other_ e
    have es30 := es11.trans e
    refine y_cases hw (fun hb hw => ?_) (fun hb hw => ?_)
    · exact hw.elim
    · refine y_nxS ?_
      refine y_ret ?_
      refine k_tup ?_
      refine y_cons ?_
      refine y_var rfl ?_
      refine y_get d_one_ hw (fun t31 d32 hw => ?_)
      first | obtain rfl := d_int d32 | cases d_int d32
      refine y_cons ?_
      refine y_var rfl ?_
      refine y_get d_other_ hw (fun t33 d34 hw => ?_)
      first | obtain rfl := d_int d34 | cases d_int d34
      refine y_nil ?_
      refine k_tupk (K := K) (x := (t31, t33)) z (by show 2 ≤ sizeLine; decide) _ rfl (DqAll.cons (Dq.int _) (DqAll.cons (Dq.int _) DqAll.nil)) (fun p H Ho e z d35 => ?_)
      replace d_one_ := D.mo d_one_ e
      replace d_other_ := D.mo d_other_ e
      have es36 := es30.trans e
      exact (run_ret hw) _ _ _ es36 z d35
def sp_is_want (K : PySem.W.Frag) (cl : Nat → Addr) : Sp := fun vs H Q E => ∃ (amb : Grp) (Ho : Hp) (v0 : V) (x0 : (List (P3 Int Str Int))) (v1 : V) (x1 : (Dc (Int × Int) Int)) (v2 : V) (x2 : (P4 Int Int Int Int)), vs = [v0, v1, v2] ∧ Zs amb H Ho ∧ LV K amb Ho v0 x0 ∧ BD K amb Ho v1 x1 ∧ Z.D K Ho v2 x2 ∧ (m_is_want x0 x1 x2).run fun r => ∀ v H' Ho', Same Ho Ho' → Zs amb H' Ho' → Z.D K Ho' v r → Q v H'
abbrev s_is_want : Stmt := topS 11
theorem sc_is_want : FnScope ["web", "places", "want", "one", "other"] ["web", "places", "want"] (defScope s_is_want) := ⟨rfl, rfl, rfl, by decide +kernel, rfl, by decide +kernel, by decide +kernel⟩
theorem ok_is_want {f : Addr} {fd : FuncData} (F : Fun K "is_want" "is_want" s_is_want f fd) {f_touches_meet : Addr} {fd_touches_meet : FuncData} (c_touches_meet : Cal P w K mg base CX0 "touches_meet" ["one", "other"] 1 (sp_touches_meet K cl) f_touches_meet fd_touches_meet) :
    FnOk P w K mg base CX0 2 f fd ["web", "places", "want"] (sp_is_want K cl) := by
  refine F.ok sc_is_want (fun vs H Q E h => ?_) (fun cdv A outer s H vs Q E hr h => ?_)
  · obtain ⟨amb, Ho, v_web_, web_, v_places_, places_, v_want_, want_, rfl, _⟩ := h
    rfl
  · obtain ⟨amb, Ho, v_web_, web_, v_places_, places_, v_want_, want_, rfl, z, d_web_, d_places_, d_want_, hw⟩ := h
    refine ⟨_, pss_cons (ps_set (i := 3) sc_is_want.nd rfl (Or.inl rfl) (pe_dget1 (room1 hr) (pv 1) (pe_tup (pa_cons (pe_ix (zix_tup (K := K) rfl) (pv 2) (pe_int) (fun _ _ => rfl)) (pa_cons (pe_ix (zix_tup (K := K) rfl) (pv 2) (pe_int) (fun _ _ => rfl)) (pa_nil)))) ⟨by rfl, by rfl, by rfl, by rfl⟩)) (pss_cons (ps_set (i := 4) sc_is_want.nd rfl (Or.inl rfl) (pe_dget1 (room1 hr) (pv 1) (pe_tup (pa_cons (pe_ix (zix_tup (K := K) rfl) (pv 2) (pe_int) (fun _ _ => rfl)) (pa_cons (pe_ix (zix_tup (K := K) rfl) (pv 2) (pe_int) (fun _ _ => rfl)) (pa_nil)))) ⟨by rfl, by rfl, by rfl, by rfl⟩)) (pss_cons (ps_if (PW.pt (pw_or (pt_cmpR (op_isN) (pv 3) (pe_non) (nomark _)) (pw_or (pt_cmpR (op_isN) (pv 4) (pe_non) (nomark _)) (pw_or1 (pt_cmpR (op_ge) (pv 3) (pv 4) (nomark _)))))) (pss_cons (ps_ret (pe_bl)) (pss_nil)) (pss_nil)) (pss_cons (ps_ret (pe_call c_touches_meet.ok (hr.mono (by decide)) (by rfl) c_touches_meet.g c_touches_meet.kp c_touches_meet.b .nil pass0 (pa_cons (pe_ix (zix_list (K := K) rfl) (pv 0) (pv 3) (fun _ _ => rfl)) (pa_cons (pe_ix (zix_list (K := K) rfl) (pv 0) (pv 4) (fun _ _ => rfl)) (pa_nil))))) (pss_nil)))), ?_⟩
    refine l_asg (fun v => [_, _, _, some v, _]) (fun _ => rfl) ?_
    refine y_dget1 ?_
    refine y_var rfl ?_
    refine g_isd (BD.sub d_places_ mgE) z (fun a1 ea1 => ?_)
    refine k_tup ?_
    refine y_cons ?_
    refine y_op ?_
    refine y_var rfl ?_
    refine y_c ?_
    refine y_ixT (y := want_.a) d_want_ z ⟨_, rfl, rfl⟩ (fun w d2 => ?_)
    first | obtain rfl := d_int d2 | cases d_int d2
    refine y_cons ?_
    refine y_op ?_
    refine y_var rfl ?_
    refine y_c ?_
    refine y_ixT (y := want_.b) d_want_ z ⟨_, rfl, rfl⟩ (fun w d3 => ?_)
    first | obtain rfl := d_int d3 | cases d_int d3
    refine y_nil ?_
    refine k_tupk (K := K) (x := (want_.a, want_.b)) z (by show 2 ≤ sizeLine; decide) _ rfl (DqAll.cons (Dq.int _) (DqAll.cons (Dq.int _) DqAll.nil)) (fun p H Ho e z d4 => ?_)
    replace d_places_ := BD.mo d_places_ e
    replace d_want_ := D.mo d_want_ e
    replace d_web_ := LV.mo d_web_ e
    have es5 := (Same.refl _).trans e
    refine g_dget1 ea1 (BD.sub d_places_ mgE) z d4 (fun w d6 => ?_)
    refine l_d (K := K) (Ho := Ho) hw d6 (fun one_ v_one_ d_one_ hw => ?_)
    refine l_asg (fun v => [_, _, _, _, some v]) (fun _ => rfl) ?_
    refine y_dget1 ?_
    refine y_var rfl ?_
    refine g_isd (BD.sub d_places_ mgE) z (fun a7 ea7 => ?_)
    refine k_tup ?_
    refine y_cons ?_
    refine y_op ?_
    refine y_var rfl ?_
    refine y_c ?_
    refine y_ixT (y := want_.c) d_want_ z ⟨_, rfl, rfl⟩ (fun w d8 => ?_)
    first | obtain rfl := d_int d8 | cases d_int d8
    refine y_cons ?_
    refine y_op ?_
    refine y_var rfl ?_
    refine y_c ?_
    refine y_ixT (y := want_.d) d_want_ z ⟨_, rfl, rfl⟩ (fun w d9 => ?_)
    first | obtain rfl := d_int d9 | cases d_int d9
    refine y_nil ?_
    refine k_tupk (K := K) (x := (want_.c, want_.d)) z (by show 2 ≤ sizeLine; decide) _ rfl (DqAll.cons (Dq.int _) (DqAll.cons (Dq.int _) DqAll.nil)) (fun p H Ho e z d10 => ?_)
    replace d_one_ := D.mo d_one_ e
    replace d_places_ := BD.mo d_places_ e
    replace d_want_ := D.mo d_want_ e
    replace d_web_ := LV.mo d_web_ e
    have es11 := es5.trans e
    refine g_dget1 ea7 (BD.sub d_places_ mgE) z d10 (fun w d12 => ?_)
    refine l_d (K := K) (Ho := Ho) hw d12 (fun other_ v_other_ d_other_ hw => ?_)
    refine y_ifS ?_
    refine y_or ?_
    refine y_test ?_
    refine y_op ?_
    refine y_var rfl ?_
    refine y_c ?_
    refine ⟨rfl, ?_⟩
    rw [dec_non d_one_ hw.1]
    replace hw := (run_gd hw).2
    refine ⟨_, rfl, ?_⟩
    refine w_orJ hw (fun (s : Bool) (v : Bool) (H2 : Hp) => ∃ (Ho2 : Hp), Same Ho Ho2 ∧ Zs amb H2 Ho2 ∧ v = s) (fun hb hw => ?_) (fun hb hw => ?_) ?_
    · exact (run_ret hw) _ _ ⟨_, (Same.refl _), z, rfl⟩
    · refine y_or ?_
      refine y_test ?_
      refine y_op ?_
      refine y_var rfl ?_
      refine y_c ?_
      refine ⟨rfl, ?_⟩
      rw [dec_non d_other_ hw.1]
      replace hw := (run_gd hw).2
      refine ⟨_, rfl, ?_⟩
      refine w_orJ hw (fun (s : Bool) (v : Bool) (H2 : Hp) => ∃ (Ho2 : Hp), Same Ho Ho2 ∧ Zs amb H2 Ho2 ∧ v = s) (fun hb hw => ?_) (fun hb hw => ?_) ?_
      · exact (run_ret hw) _ _ ⟨_, (Same.refl _), z, rfl⟩
      · refine y_test ?_
        refine y_op ?_
        refine y_var rfl ?_
        refine y_get d_one_ hw (fun t13 d14 hw => ?_)
        first | obtain rfl := d_int d14 | cases d_int d14
        refine y_var rfl ?_
        refine y_get d_other_ hw (fun t15 d16 hw => ?_)
        first | obtain rfl := d_int d16 | cases d_int d16
        refine y_i0 ?_
        refine ⟨_, rfl, ?_⟩
        exact (run_ret hw) _ _ ⟨_, (Same.refl _), z, rfl⟩
      rintro t17 v H ⟨Ho, e, z, rfl⟩ hw
      replace d_one_ := D.mo d_one_ e
      replace d_other_ := D.mo d_other_ e
      replace d_web_ := LV.mo d_web_ e
      have es20 := (Same.refl _).trans e
      exact (run_ret hw) _ _ ⟨_, es20, z, rfl⟩
    rintro t21 v H ⟨Ho, e, z, rfl⟩ hw
    replace d_one_ := D.mo d_one_ e
    replace d_other_ := D.mo d_other_ e
    replace d_web_ := LV.mo d_web_ e
    have es24 := es11.trans e
    refine y_cases hw (fun hb hw => ?_) (fun hb hw => ?_)
    · refine y_ret ?_
      refine y_c ?_
      exact (run_ret hw) _ _ _ es24 z (Dq.bl _)
    · refine y_nxS ?_
      refine y_ret ?_
      refine y_call ?_
      refine y_cons ?_
      refine y_op ?_
      refine y_var rfl ?_
      refine y_var rfl ?_
      refine y_get d_one_ hw (fun t25 d26 hw => ?_)
      first | obtain rfl := d_int d26 | cases d_int d26
      refine y_ixL (LV.sub d_web_ mgE) z hw (fun t27 w d28 hw => ?_)
      refine y_cons ?_
      refine y_op ?_
      refine y_var rfl ?_
      refine y_var rfl ?_
      refine y_get d_other_ hw (fun t29 d30 hw => ?_)
      first | obtain rfl := d_int d30 | cases d_int d30
      refine y_ixL (LV.sub d_web_ mgE) z hw (fun t31 w d32 hw => ?_)
      refine y_nil ?_
      refine ⟨amb, _, _, _, _, _, rfl, z, d28, d32, ?_⟩
      refine run_mono3 hw (fun t33 hw v H Ho e z d34 => ?_)
      replace d_one_ := D.mo d_one_ e
      replace d_other_ := D.mo d_other_ e
      replace d_web_ := LV.mo d_web_ e
      have es36 := es24.trans e
      first | obtain rfl := d_bool d34 | cases d_bool d34
      exact (run_ret hw) _ _ _ es36 z (Dq.bl _)
def sp_meets_want (K : PySem.W.Frag) (cl : Nat → Addr) : Sp := fun vs H Q E => ∃ (amb : Grp) (Ho : Hp) (v0 : V) (x0 : (List (P3 Int Str Int))) (v1 : V) (x1 : (P4 Int Int Int Int)) (v2 : V) (x2 : (P4 Int Int Int Int)), vs = [v0, v1, v2] ∧ Zs amb H Ho ∧ LV K amb Ho v0 x0 ∧ Z.D K Ho v1 x1 ∧ Z.D K Ho v2 x2 ∧ (m_meets_want x0 x1 x2).run fun r => ∀ v H' Ho', Same Ho Ho' → Zs amb H' Ho' → Z.D K Ho' v r → Q v H'
abbrev s_meets_want : Stmt := topS 12
theorem sc_meets_want : FnScope ["web", "note", "want", "places"] ["web", "note", "want"] (defScope s_meets_want) := ⟨rfl, rfl, rfl, by decide +kernel, rfl, by decide +kernel, by decide +kernel⟩
theorem ok_meets_want {f : Addr} {fd : FuncData} (F : Fun K "meets_want" "meets_want" s_meets_want f fd) {f_places_of : Addr} {fd_places_of : FuncData} (c_places_of : Cal P w K mg base CX0 "places_of" ["web"] 2 (sp_places_of K cl) f_places_of fd_places_of) {f_ends_of : Addr} {fd_ends_of : FuncData} (c_ends_of : Cal P w K mg base CX0 "ends_of" ["places", "note"] 1 (sp_ends_of K cl) f_ends_of fd_ends_of) {f_is_want : Addr} {fd_is_want : FuncData} (c_is_want : Cal P w K mg base CX0 "is_want" ["web", "places", "want"] 2 (sp_is_want K cl) f_is_want fd_is_want) :
    FnOk P w K mg base CX0 3 f fd ["web", "note", "want"] (sp_meets_want K cl) := by
  refine F.ok sc_meets_want (fun vs H Q E h => ?_) (fun cdv A outer s H vs Q E hr h => ?_)
  · obtain ⟨amb, Ho, v_web_, web_, v_note_, note_, v_want_, want_, rfl, _⟩ := h
    rfl
  · obtain ⟨amb, Ho, v_web_, web_, v_note_, note_, v_want_, want_, rfl, z, d_web_, d_note_, d_want_, hw⟩ := h
    refine ⟨_, pss_cons (ps_set (i := 3) sc_meets_want.nd rfl (Or.inl rfl) (pe_call c_places_of.ok (hr.mono (by decide)) (by rfl) c_places_of.g c_places_of.kp c_places_of.b .nil pass0 (pa_cons (pv 0) (pa_nil)))) (pss_cons (ps_expr (pe_call c_ends_of.ok (hr.mono (by decide)) (by rfl) c_ends_of.g c_ends_of.kp c_ends_of.b .nil pass0 (pa_cons (pv 3) (pa_cons (pv 1) (pa_nil))))) (pss_cons (ps_if (pt_not (pt_val (pe_call c_is_want.ok (hr.mono (by decide)) (by rfl) c_is_want.g c_is_want.kp c_is_want.b .nil pass0 (pa_cons (pv 0) (pa_cons (pv 3) (pa_cons (pv 2) (pa_nil))))))) (pss_cons (ps_never) (pss_nil)) (pss_nil)) (pss_cons (ps_if (PW.pt (pw_or (pt_cmpR (op_ne) (pe_ix (zix_tup (K := K) rfl) (pv 1) (pe_int) (fun _ _ => rfl)) (pe_ix (zix_tup (K := K) rfl) (pv 2) (pe_int) (fun _ _ => rfl)) (nomark _)) (pw_or1 (pt_cmpR (op_ne) (pe_ix (zix_tup (K := K) rfl) (pv 1) (pe_int) (fun _ _ => rfl)) (pe_ix (zix_tup (K := K) rfl) (pv 2) (pe_int) (fun _ _ => rfl)) (nomark _))))) (pss_cons (ps_ret (pe_bl)) (pss_nil)) (pss_nil)) (pss_cons (ps_ret (pe_and (pe_cmpR (op_ge) (pe_ix (zix_tup (K := K) rfl) (pv 1) (pe_int) (fun _ _ => rfl)) (pe_ix (zix_tup (K := K) rfl) (pv 2) (pe_int) (fun _ _ => rfl)) (nomark _)) (pe_one (pe_cmpR (op_le) (pe_ix (zix_tup (K := K) rfl) (pv 1) (pe_int) (fun _ _ => rfl)) (pe_ix (zix_tup (K := K) rfl) (pv 2) (pe_int) (fun _ _ => rfl)) (nomark _))))) (pss_nil))))), ?_⟩
    refine l_asg (fun v => [_, _, _, some v]) (fun _ => rfl) ?_
    refine y_call ?_
    refine y_cons ?_
    refine y_var rfl ?_
    refine y_nil ?_
    refine ⟨amb, _, _, _, rfl, z, (LV.sub d_web_ mgE), ?_⟩
    refine run_mono3 hw (fun t1 hw v g3 H Ho e z d2 => ?_)
    replace d_note_ := D.mo d_note_ e
    replace d_want_ := D.mo d_want_ e
    replace d_web_ := LV.mo d_web_ e
    have es4 := (Same.refl _).trans e
    refine d_o hw z d2 (fun places_ v_places_ g_places_ z d_places_ hw => ?_)
    refine y_drop ?_
    refine y_call ?_
    refine y_cons ?_
    refine y_var rfl ?_
    refine y_cons ?_
    refine y_var rfl ?_
    refine y_nil ?_
    refine ⟨(g_places_ ++ amb), _, _, _, _, _, rfl, z, ⟨_, d_places_, mg0⟩, d_note_, ?_⟩
    refine run_mono3 hw (fun t5 hw v H Ho e z d6 => ?_)
    replace d_note_ := D.mo d_note_ e
    replace d_places_ := OD.mo d_places_ e
    replace d_want_ := D.mo d_want_ e
    replace d_web_ := LV.mo d_web_ e
    have es8 := es4.trans e
    refine y_ifS ?_
    refine y_not ?_
    refine y_tB ?_
    refine y_call ?_
    refine y_cons ?_
    refine y_var rfl ?_
    refine y_cons ?_
    refine y_var rfl ?_
    refine y_cons ?_
    refine y_var rfl ?_
    refine y_nil ?_
    refine ⟨(g_places_ ++ amb), _, _, _, _, _, _, _, rfl, z, (LV.sub d_web_ (mgS mgE)), ⟨_, d_places_, mg0⟩, d_want_, ?_⟩
    refine run_mono3 hw (fun t9 hw v H Ho e z d10 => ?_)
    replace d_note_ := D.mo d_note_ e
    replace d_places_ := OD.mo d_places_ e
    replace d_want_ := D.mo d_want_ e
    have es12 := es8.trans e
    first | obtain rfl := d_bool d10 | cases d_bool d10
    refine ⟨_, rfl, ?_⟩
    refine y_cases hw (fun hb hw => ?_) (fun hb hw => ?_)
    · exact hw.elim
    · refine y_nxS ?_
      refine y_ifS ?_
      refine y_or ?_
      refine y_test ?_
      refine y_op ?_
      refine y_op ?_
      refine y_var rfl ?_
      refine y_c ?_
      refine y_ixT (y := note_.a) d_note_ z ⟨_, rfl, rfl⟩ (fun w d13 => ?_)
      first | obtain rfl := d_int d13 | cases d_int d13
      refine y_op ?_
      refine y_var rfl ?_
      refine y_c ?_
      refine y_ixT (y := want_.a) d_want_ z ⟨_, rfl, rfl⟩ (fun w d14 => ?_)
      first | obtain rfl := d_int d14 | cases d_int d14
      refine y_nei ?_
      refine ⟨_, rfl, ?_⟩
      refine w_orP (a := (!decide (note_.a = want_.a))) (!decide (note_.c = want_.c)) (fun hb hq => ?_) ?_
      · refine y_test ?_
        refine y_op ?_
        refine y_op ?_
        refine y_var rfl ?_
        refine y_c ?_
        refine y_ixT (y := note_.c) d_note_ z ⟨_, rfl, rfl⟩ (fun w d15 => ?_)
        first | obtain rfl := d_int d15 | cases d_int d15
        refine y_op ?_
        refine y_var rfl ?_
        refine y_c ?_
        refine y_ixT (y := want_.c) d_want_ z ⟨_, rfl, rfl⟩ (fun w d16 => ?_)
        first | obtain rfl := d_int d16 | cases d_int d16
        refine y_nei ?_
        refine ⟨_, rfl, ?_⟩
        exact hq
      refine y_cases hw (fun hb hw => ?_) (fun hb hw => ?_)
      · refine y_ret ?_
        refine y_c ?_
        replace z : Zs amb _ _ := z.go [g_places_] amb []
        exact (run_ret hw) _ _ _ es12 z (Dq.bl _)
      · refine y_nxS ?_
        refine y_ret ?_
        refine y_andV ?_
        refine y_op ?_
        refine y_op ?_
        refine y_var rfl ?_
        refine y_c ?_
        refine y_ixT (y := note_.b) d_note_ z ⟨_, rfl, rfl⟩ (fun w d17 => ?_)
        first | obtain rfl := d_int d17 | cases d_int d17
        refine y_op ?_
        refine y_var rfl ?_
        refine y_c ?_
        refine y_ixT (y := want_.b) d_want_ z ⟨_, rfl, rfl⟩ (fun w d18 => ?_)
        first | obtain rfl := d_int d18 | cases d_int d18
        refine y_i0 ?_
        refine ⟨_, rfl, ?_⟩
        refine w_andPV (a := (decide (note_.b ≥ want_.b))) (decide (note_.d ≤ want_.d)) (fun hb hq => ?_) ?_
        · refine y_op ?_
          refine y_op ?_
          refine y_var rfl ?_
          refine y_c ?_
          refine y_ixT (y := note_.d) d_note_ z ⟨_, rfl, rfl⟩ (fun w d19 => ?_)
          first | obtain rfl := d_int d19 | cases d_int d19
          refine y_op ?_
          refine y_var rfl ?_
          refine y_c ?_
          refine y_ixT (y := want_.d) d_want_ z ⟨_, rfl, rfl⟩ (fun w d20 => ?_)
          first | obtain rfl := d_int d20 | cases d_int d20
          refine y_i0 ?_
          exact hq
        replace z : Zs amb _ _ := z.go [g_places_] amb []
        exact (run_ret hw) _ _ _ es12 z (Dq.bl _)
def sp_found_between (K : PySem.W.Frag) (cl : Nat → Addr) : Sp := fun vs H Q E => ∃ (amb : Grp) (Ho : Hp) (v0 : V) (x0 : (List (P3 Int Str Int))) (v1 : V) (x1 : (List (Int × Int))) (v2 : V) (x2 : Int) (v3 : V) (x3 : Int), vs = [v0, v1, v2, v3] ∧ Zs amb H Ho ∧ LV K amb Ho v0 x0 ∧ LV K amb Ho v1 x1 ∧ Z.D K Ho v2 x2 ∧ Z.D K Ho v3 x3 ∧ (m_found_between x0 x1 x2 x3).run fun r => ∀ v g H' Ho', Same Ho Ho' → Zs (g ++ amb) H' Ho' → OL K Ho' v r g → Q v H'
abbrev s_found_between : Stmt := topS 13
theorem sc_found_between : FnScope ["web", "called", "hand", "other", "found", "met", "ahead", "j", "latest", "i"] ["web", "called", "hand", "other"] (defScope s_found_between) := ⟨rfl, rfl, rfl, by decide +kernel, rfl, by decide +kernel, by decide +kernel⟩
theorem ok_found_between {f : Addr} {fd : FuncData} (F : Fun K "found_between" "found_between" s_found_between f fd) {f_touches_meet : Addr} {fd_touches_meet : FuncData} (c_touches_meet : Cal P w K mg base CX0 "touches_meet" ["one", "other"] 1 (sp_touches_meet K cl) f_touches_meet fd_touches_meet) (m_len : mg "len" = none) (m_range : mg "range" = none) (m_max : mg "max" = none) :
    FnOk P w K mg base CX0 2 f fd ["web", "called", "hand", "other"] (sp_found_between K cl) := by
  refine F.ok sc_found_between (fun vs H Q E h => ?_) (fun cdv A outer s H vs Q E hr h => ?_)
  · obtain ⟨amb, Ho, v_web_, web_, v_called_, called_, v_hand_, hand_, v_other_, other_, rfl, _⟩ := h
    rfl
  · obtain ⟨amb, Ho, v_web_, web_, v_called_, called_, v_hand_, hand_, v_other_, other_, rfl, z, d_web_, d_called_, d_hand_, d_other_, hw⟩ := h
    refine ⟨_, pss_cons (ps_set (i := 4) sc_found_between.nd rfl (Or.inl rfl) (pe_lst (pa_nil))) (pss_cons (ps_set (i := 5) sc_found_between.nd rfl (Or.inl rfl) (pe_un un_neg (pe_int))) (pss_cons (ps_set (i := 6) sc_found_between.nd rfl (Or.inl rfl) (pe_lst (pa_nil))) (pss_cons (ps_for PassesOwn.never rfl (pi_range1 (by rfl) m_range (pa_cons (pe_callB (zlen (K := K) rfl) (by rfl) m_len (by decide +kernel) (pa_cons (pv 0) (pa_nil))) (pa_nil))) (pg_name (i := 7) sc_found_between.nd rfl (Or.inr rfl)) (pss_cons (ps_if (pt_cmpR (op_eq) (pe_ix (zix_tup (K := K) rfl) (pe_ix (zix_list (K := K) rfl) (pv 0) (pv 7) (fun _ _ => rfl)) (pe_int) (fun _ _ => rfl)) (pv 2) (nomark _)) (pss_cons (ps_expr (pe_bm PySem.F.plainAttrs_list PySem.F.slot_list_append PySem.F.type_list_append mt_append (pv 6) (pa_cons (pv 7) (pa_nil)))) (pss_nil)) (pss_cons (ps_if (pt_cmpR (op_eq) (pe_ix (zix_tup (K := K) rfl) (pe_ix (zix_list (K := K) rfl) (pv 0) (pv 7) (fun _ _ => rfl)) (pe_int) (fun _ _ => rfl)) (pv 3) (nomark _)) (pss_cons (ps_set (i := 8) sc_found_between.nd rfl (Or.inl rfl) (pe_callBK (zmxD (K := K) rfl rfl hr.units) (by rfl) m_max (by decide +kernel) (pa_cons (pe_lc (own := [("i", 9)]) rfl sc_found_between.nd (zpi_list (K := K) rfl (pv 6)) (blkOk_by (N := ["web", "called", "hand", "other", "found", "met", "ahead", "j", "latest", "i"]) (sc := defScope s_found_between) (by decide +kernel)) (fun _ _ _ _ _ => pg_name (i := 9) sc_found_between.nd rfl (Or.inl rfl)) (fun _ _ _ _ _ => pts_one (pt_val (pe_call c_touches_meet.ok (hr.mono (by decide)) (by rfl) c_touches_meet.g c_touches_meet.kp c_touches_meet.b .nil pass0 (pa_cons (pe_ix (zix_list (K := K) rfl) (pv 0) (pv 9) (fun _ _ => rfl)) (pa_cons (pe_ix (zix_list (K := K) rfl) (pv 0) (pv 7) (fun _ _ => rfl)) (pa_nil)))))) (fun _ _ _ _ _ => pv 9)) (pa_nil)) (pk_cons (pe_un un_neg (pe_int)) pk_nil))) (pss_cons (ps_if (pt_cmpR (op_gt) (pv 8) (pv 5) (nomark _)) (pss_cons (ps_expr (pe_bm PySem.F.plainAttrs_list PySem.F.slot_list_append PySem.F.type_list_append mt_append (pv 4) (pa_cons (pe_tup (pa_cons (pe_op (zop_catT (K := K) rfl) (pe_ix (zix_list (K := K) rfl) (pv 1) (pe_ix (zix_list (K := K) rfl) (pv 6) (pe_un un_neg (pe_int)) (fun _ _ => rfl)) (fun _ _ => rfl)) (pe_ix (zix_list (K := K) rfl) (pv 1) (pv 7) (fun _ _ => rfl))) (pa_cons (pe_op (zop_catT (K := K) rfl) (pe_ix (zix_list (K := K) rfl) (pv 1) (pv 8) (fun _ _ => rfl)) (pe_ix (zix_list (K := K) rfl) (pv 1) (pv 7) (fun _ _ => rfl))) (pa_nil)))) (pa_nil)))) (pss_cons (ps_set (i := 5) sc_found_between.nd rfl (Or.inl rfl) (pv 7)) (pss_nil))) (pss_nil)) (pss_nil))) (pss_nil)) (pss_nil))) (pss_nil))) (pss_cons (ps_ret (pv 4)) (pss_nil))))), ?_⟩
    obtain rfl := d_int d_hand_
    obtain rfl := d_int d_other_
    refine l_asg (fun v => [_, _, _, _, some v, _, _, _, _, _]) (fun _ => rfl) ?_
    refine k_lst ?_
    refine y_nil ?_
    refine k_lstk (K := K) (xs := ([] : (List ((P4 Int Int Int Int) × (P4 Int Int Int Int))))) z DqAll.nil (by show 0 ≤ sizeLine; decide) (fun H p1 ws2 z d3 => ?_)
    replace z : Zs ([(p1, HO.lst ws2)] ++ amb) H Ho := z
    have o4 := OL.mk (p := p1) d3
    refine l_o hw z o4 (fun found_ v_found_ g_found_ z d_found_ hw => ?_)
    refine l_asg (fun v => [_, _, _, _, _, some v, _, _, _, _]) (fun _ => rfl) ?_
    refine y_un ?_
    refine y_c ?_
    refine y_neg ?_
    refine l_i hw (fun met_ hw => ?_)
    refine l_asg (fun v => [_, _, _, _, _, _, some v, _, _, _]) (fun _ => rfl) ?_
    refine k_lst ?_
    refine y_nil ?_
    refine k_lstk (K := K) (xs := ([] : (List Int))) z DqAll.nil (by show 0 ≤ sizeLine; decide) (fun H p5 ws6 z d7 => ?_)
    replace z : Zs ([(p5, HO.lst ws6)] ++ (g_found_ ++ amb)) H Ho := z
    have o8 := OL.mk (p := p5) d7
    refine l_o hw z o8 (fun ahead_ v_ahead_ g_ahead_ z d_ahead_ hw => ?_)
    refine y_for ?_
    refine k_iR1 ?_
    refine y_cons ?_
    refine y_cb ?_
    refine y_cons ?_
    refine y_var rfl ?_
    refine y_nil ?_
    refine y_len (LV.sub d_web_ (mgS (mgS mgE))) z ?_
    refine y_nil ?_
    refine k_srcR1 (K := K) (Ho := Ho) hw.1 (fun J T => ?_)
    replace hw := (run_gd hw).2
    refine y_forL T hw (fun (s : (List ((P4 Int Int Int Int) × (P4 Int Int Int Int))) × Int × (List Int)) (σ : L2.St) (H Ho : Hp) => ∃ (g_found_ : Grp) (g_ahead_ : Grp) (y_j_ : Option V) (y_latest_ : Option V), σ = [some v_web_, some v_called_, some (V.int hand_), some (V.int other_), some v_found_, some (V.int s.2.1), some v_ahead_, y_j_, y_latest_, none] ∧ Zs (g_ahead_ ++ (g_found_ ++ amb)) H Ho ∧ OL K Ho v_found_ s.1 g_found_ ∧ OL K Ho v_ahead_ s.2.2 g_ahead_) ⟨_, _, _, _, rfl, z, d_found_, d_ahead_⟩ ?_ ?_ ?_ ?_
    · intro s σ H Ho hI
      obtain ⟨found_, met_, ahead_⟩ := s
      obtain ⟨g_found_, g_ahead_, y_j_, y_latest_, rfl, z, d_found_, d_ahead_⟩ := hI
      exact ⟨_, z, mgN⟩
    · intro s σ H Ho H2 Ho2 hI e t
      obtain ⟨found_, met_, ahead_⟩ := s
      obtain ⟨g_found_, g_ahead_, y_j_, y_latest_, rfl, z, d_found_, d_ahead_⟩ := hI
      exact ⟨_, _, _, _, rfl, t _ z, OL.mo d_found_ e, OL.mo d_ahead_ e⟩
    · intro j_ v_j_ s σ H Ho N e hI d_j_ hw
      obtain ⟨found_, met_, ahead_⟩ := s
      obtain ⟨g_found_, g_ahead_, y_j_, y_latest_, rfl, z, d_found_, d_ahead_⟩ := hI
      replace d_called_ := LV.mo d_called_ e
      replace d_web_ := LV.mo d_web_ e
      have es9 := (Same.refl _).trans e
      obtain rfl := d_int d_j_
      refine y_gname (σ' := [some v_web_, some v_called_, some (V.int hand_), some (V.int other_), some v_found_, some (V.int met_), some v_ahead_, some (V.int j_), y_latest_, none]) rfl ?_
      refine y_ifS ?_
      refine y_test ?_
      refine y_op ?_
      refine y_op ?_
      refine y_op ?_
      refine y_var rfl ?_
      refine y_var rfl ?_
      refine y_ixL (LV.sub d_web_ (mgS (mgS mgE))) z hw (fun t10 w d11 hw => ?_)
      refine y_c ?_
      refine y_ixT (y := t10.a) d11 z ⟨_, rfl, rfl⟩ (fun w d12 => ?_)
      first | obtain rfl := d_int d12 | cases d_int d12
      refine y_var rfl ?_
      refine y_eqi ?_
      refine ⟨_, rfl, ?_⟩
      refine w_ifJ hw (fun (s : (List ((P4 Int Int Int Int) × (P4 Int Int Int Int))) × Int × (List Int)) (σ : L2.St) (H : Hp) => ∃ Ho2, Same Ho Ho2 ∧ (fun (s : (List ((P4 Int Int Int Int) × (P4 Int Int Int Int))) × Int × (List Int)) (σ : L2.St) (H Ho : Hp) => ∃ (g_found_ : Grp) (g_ahead_ : Grp) (y_latest_ : Option V), σ = [some v_web_, some v_called_, some (V.int hand_), some (V.int other_), some v_found_, some (V.int s.2.1), some v_ahead_, some (V.int j_), y_latest_, none] ∧ Zs (g_ahead_ ++ (g_found_ ++ amb)) H Ho ∧ OL K Ho v_found_ s.1 g_found_ ∧ OL K Ho v_ahead_ s.2.2 g_ahead_) s σ H Ho2) (fun hb hw => ?_) (fun hb hw => ?_) ?_
      · refine y_drop ?_
        refine y_bm ?_
        refine y_var rfl ?_
        refine g_tyL (OL.lv d_ahead_ mg0) z ?_
        refine y_cons ?_
        refine y_var rfl ?_
        refine y_nil ?_
        refine g_app z d_ahead_ (Dq.int _) hw (fun ahead_ g_ahead_ H z d_ahead_ hw => ?_)
        exact (run_ret hw) _ _ ⟨_, (Same.refl _), ⟨_, _, _, rfl, z, d_found_, d_ahead_⟩⟩
      · refine y_ifS ?_
        refine y_test ?_
        refine y_op ?_
        refine y_op ?_
        refine y_op ?_
        refine y_var rfl ?_
        refine y_var rfl ?_
        refine y_ixL (LV.sub d_web_ (mgS (mgS mgE))) z hw (fun t13 w d14 hw => ?_)
        refine y_c ?_
        refine y_ixT (y := t13.a) d14 z ⟨_, rfl, rfl⟩ (fun w d15 => ?_)
        first | obtain rfl := d_int d15 | cases d_int d15
        refine y_var rfl ?_
        refine y_eqi ?_
        refine ⟨_, rfl, ?_⟩
        refine w_ifJ hw (fun (s : (List ((P4 Int Int Int Int) × (P4 Int Int Int Int))) × Int) (σ : L2.St) (H : Hp) => ∃ Ho2, Same Ho Ho2 ∧ (fun (s : (List ((P4 Int Int Int Int) × (P4 Int Int Int Int))) × Int) (σ : L2.St) (H Ho : Hp) => ∃ (g_found_ : Grp) (y_latest_ : Option V), σ = [some v_web_, some v_called_, some (V.int hand_), some (V.int other_), some v_found_, some (V.int s.2), some v_ahead_, some (V.int j_), y_latest_, none] ∧ Zs (g_ahead_ ++ (g_found_ ++ amb)) H Ho ∧ OL K Ho v_found_ s.1 g_found_) s σ H Ho2) (fun hb hw => ?_) (fun hb hw => ?_) ?_
        · refine l_asg (fun v => [_, _, _, _, _, _, _, _, some v, _]) (fun _ => rfl) ?_
          refine y_ckw ?_
          refine y_cons ?_
          refine y_lc ?_
          refine k_iList ?_
          refine y_var rfl ?_
          refine k_srcL (r0 := g_ahead_) (OL.lv d_ahead_ mgE) mg0 z (fun J T => ?_)
          refine y_lcG z mg0 T hw (fun r16 i_ v_i_ H Ho N N' e z d_i_ hw => ?_) (fun t29 H Ho e hw p26 ws27 z d28 => ?_)
          · replace z : Zs ([r16] ++ (g_ahead_ ++ (g_found_ ++ amb))) H Ho := z
            replace d_ahead_ := OL.mo d_ahead_ e
            replace d_called_ := LV.mo d_called_ e
            replace d_found_ := OL.mo d_found_ e
            replace d_web_ := LV.mo d_web_ e
            have es17 := (Same.refl _).trans e
            obtain rfl := d_int d_i_
            refine y_gname (σ' := [some v_web_, some v_called_, some (V.int hand_), some (V.int other_), some v_found_, some (V.int met_), some v_ahead_, some (V.int j_), y_latest_, some (V.int i_)]) rfl ?_
            refine ⟨rfl, ?_⟩
            refine y_tB ?_
            refine y_call ?_
            refine y_cons ?_
            refine y_op ?_
            refine y_var rfl ?_
            refine y_var rfl ?_
            refine y_ixL (LV.sub d_web_ (mgS (mgS (mgS mgE)))) z hw (fun t18 w d19 hw => ?_)
            refine y_cons ?_
            refine y_op ?_
            refine y_var rfl ?_
            refine y_var rfl ?_
            refine y_ixL (LV.sub d_web_ (mgS (mgS (mgS mgE)))) z hw (fun t20 w d21 hw => ?_)
            refine y_nil ?_
            refine ⟨([r16] ++ (g_ahead_ ++ (g_found_ ++ amb))), _, _, _, _, _, rfl, z, d19, d21, ?_⟩
            refine run_mono3 hw (fun t22 hw v H Ho e z d23 => ?_)
            replace d_ahead_ := OL.mo d_ahead_ e
            replace d_called_ := LV.mo d_called_ e
            replace d_found_ := OL.mo d_found_ e
            replace d_web_ := LV.mo d_web_ e
            have es25 := (Same.refl _).trans e
            first | obtain rfl := d_bool d23 | cases d_bool d23
            refine ⟨_, rfl, ?_⟩
            refine w_two (fun hb => ?_) (fun hb => ?_)
            · replace hw := run_itT (run_ret hw) hb
              refine y_var rfl ?_
              exact (run_ret hw) _ _ _ es25 z (Dq.int _)
            · exact run_itF (run_ret hw) hb _ _ es25 z
          replace d_ahead_ := OL.mo d_ahead_ e
          replace d_called_ := LV.mo d_called_ e
          replace d_found_ := OL.mo d_found_ e
          replace d_web_ := LV.mo d_web_ e
          have es30 := (Same.refl _).trans e
          replace z : Zs ([(p26, HO.lst ws27)] ++ (g_ahead_ ++ (g_found_ ++ amb))) H Ho := z
          have o31 := OL.mk (p := p26) d28
          refine y_nil ?_
          refine y_cons ?_
          refine y_un ?_
          refine y_c ?_
          refine y_neg ?_
          refine y_nil ?_
          refine y_mxD (OL.lv o31 mg0) z ?_
          refine l_i hw (fun latest_ hw => ?_)
          replace z : Zs (g_ahead_ ++ (g_found_ ++ amb)) _ _ := z.go [[(p26, HO.lst ws27)], g_ahead_, g_found_] amb [1, 2]
          refine y_ifS ?_
          refine y_test ?_
          refine y_op ?_
          refine y_var rfl ?_
          refine y_var rfl ?_
          refine y_i0 ?_
          refine ⟨_, rfl, ?_⟩
          refine w_ifJ hw (fun (s : (List ((P4 Int Int Int Int) × (P4 Int Int Int Int))) × Int) (σ : L2.St) (H : Hp) => ∃ Ho2, Same Ho Ho2 ∧ (fun (s : (List ((P4 Int Int Int Int) × (P4 Int Int Int Int))) × Int) (σ : L2.St) (H Ho : Hp) => ∃ (g_found_ : Grp), σ = [some v_web_, some v_called_, some (V.int hand_), some (V.int other_), some v_found_, some (V.int s.2), some v_ahead_, some (V.int j_), some (V.int latest_), none] ∧ Zs (g_ahead_ ++ (g_found_ ++ amb)) H Ho ∧ OL K Ho v_found_ s.1 g_found_) s σ H Ho2) (fun hb hw => ?_) (fun hb hw => ?_) ?_
          · refine y_drop ?_
            refine y_bm ?_
            refine y_var rfl ?_
            refine g_tyL (OL.lv d_found_ (mgS mg0)) z ?_
            refine y_cons ?_
            refine k_tup ?_
            refine y_cons ?_
            refine y_op ?_
            refine y_op ?_
            refine y_var rfl ?_
            refine y_op ?_
            refine y_var rfl ?_
            refine y_un ?_
            refine y_c ?_
            refine y_neg ?_
            refine y_ixL (OL.lv d_ahead_ mg0) z hw (fun t32 w d33 hw => ?_)
            first | obtain rfl := d_int d33 | cases d_int d33
            refine y_ixL (LV.sub d_called_ (mgS (mgS mgE))) z hw (fun t34 w d35 hw => ?_)
            refine y_op ?_
            refine y_var rfl ?_
            refine y_var rfl ?_
            refine y_ixL (LV.sub d_called_ (mgS (mgS mgE))) z hw (fun t36 w d37 hw => ?_)
            refine y_cat22 d35 d37 z (fun p H Ho e z d38 => ?_)
            replace d_ahead_ := OL.mo d_ahead_ e
            replace d_called_ := LV.mo d_called_ e
            replace d_found_ := OL.mo d_found_ e
            replace d_web_ := LV.mo d_web_ e
            have es39 := (Same.refl _).trans e
            refine y_cons ?_
            refine y_op ?_
            refine y_op ?_
            refine y_var rfl ?_
            refine y_var rfl ?_
            refine y_ixL (LV.sub d_called_ (mgS (mgS mgE))) z hw (fun t40 w d41 hw => ?_)
            refine y_op ?_
            refine y_var rfl ?_
            refine y_var rfl ?_
            refine y_ixL (LV.sub d_called_ (mgS (mgS mgE))) z hw (fun t42 w d43 hw => ?_)
            refine y_cat22 d41 d43 z (fun p H Ho e z d44 => ?_)
            replace d_ahead_ := OL.mo d_ahead_ e
            replace d_called_ := LV.mo d_called_ e
            replace d_found_ := OL.mo d_found_ e
            replace d_web_ := LV.mo d_web_ e
            replace d38 := D.mo d38 e
            have es45 := es39.trans e
            refine y_nil ?_
            refine k_tupk (K := K) (x := ((⟨t34.1, t34.2, t36.1, t36.2⟩ : (P4 Int Int Int Int)), (⟨t40.1, t40.2, t42.1, t42.2⟩ : (P4 Int Int Int Int)))) z (by show 2 ≤ sizeLine; decide) _ rfl (DqAll.cons d38 (DqAll.cons d44 DqAll.nil)) (fun p H Ho e z d46 => ?_)
            replace d_ahead_ := OL.mo d_ahead_ e
            replace d_called_ := LV.mo d_called_ e
            replace d_found_ := OL.mo d_found_ e
            replace d_web_ := LV.mo d_web_ e
            have es47 := es45.trans e
            refine y_nil ?_
            replace z : Zs (g_found_ ++ (g_ahead_ ++ amb)) _ _ := z.go [g_ahead_, g_found_] amb [1, 0]
            refine g_app z d_found_ d46 hw (fun found_ g_found_ H z d_found_ hw => ?_)
            refine l_asg (fun v => [_, _, _, _, _, some v, _, _, _, _]) (fun _ => rfl) ?_
            refine y_var rfl ?_
            refine l_i hw (fun met_ hw => ?_)
            replace z : Zs (g_ahead_ ++ (g_found_ ++ amb)) _ _ := z.go [g_found_, g_ahead_] amb [1, 0]
            exact (run_ret hw) _ _ ⟨_, es47, ⟨_, rfl, z, d_found_⟩⟩
          · refine y_nxS ?_
            exact (run_ret hw) _ _ ⟨_, (Same.refl _), ⟨_, rfl, z, d_found_⟩⟩
          rintro ⟨found_, met_⟩ σ H ⟨Ho, e, g_found_, rfl, z, d_found_⟩ hw
          replace d_ahead_ := OL.mo d_ahead_ e
          replace d_called_ := LV.mo d_called_ e
          replace d_web_ := LV.mo d_web_ e
          have es48 := es30.trans e
          exact (run_ret hw) _ _ ⟨_, es48, ⟨_, _, rfl, z, d_found_⟩⟩
        · refine y_nxS ?_
          exact (run_ret hw) _ _ ⟨_, (Same.refl _), ⟨_, _, rfl, z, d_found_⟩⟩
        rintro ⟨found_, met_⟩ σ H ⟨Ho, e, g_found_, y_latest_, rfl, z, d_found_⟩ hw
        replace d_ahead_ := OL.mo d_ahead_ e
        replace d_called_ := LV.mo d_called_ e
        replace d_web_ := LV.mo d_web_ e
        have es49 := (Same.refl _).trans e
        exact (run_ret hw) _ _ ⟨_, es49, ⟨_, _, _, rfl, z, d_found_, d_ahead_⟩⟩
      rintro ⟨found_, met_, ahead_⟩ σ H ⟨Ho, e, g_found_, g_ahead_, y_latest_, rfl, z, d_found_, d_ahead_⟩ hw
      replace d_called_ := LV.mo d_called_ e
      replace d_web_ := LV.mo d_web_ e
      have es50 := (Same.refl _).trans e
      exact (run_ret hw) _ _ _ es50 ⟨_, _, _, _, rfl, z, d_found_, d_ahead_⟩
    intro s σ H Ho e hI hw
    obtain ⟨found_, met_, ahead_⟩ := s
    obtain ⟨g_found_, g_ahead_, y_j_, y_latest_, rfl, z, d_found_, d_ahead_⟩ := hI
    have es51 := (Same.refl _).trans e
    refine y_ret ?_
    refine y_var rfl ?_
    replace z : Zs (g_found_ ++ amb) _ _ := z.go [g_ahead_, g_found_] amb [1]
    exact (run_ret hw) _ _ _ _ es51 z d_found_
def sp_all_found (K : PySem.W.Frag) (cl : Nat → Addr) : Sp := fun vs H Q E => ∃ (amb : Grp) (Ho : Hp) (v0 : V) (x0 : (List (P3 Int Str Int))), vs = [v0] ∧ Zs amb H Ho ∧ LV K amb Ho v0 x0 ∧ (m_all_found x0).run fun r => ∀ v H' Ho', Same Ho Ho' → Zs amb H' Ho' → Z.D K Ho' v r → Q v H'
abbrev s_all_found : Stmt := topS 14
theorem sc_all_found : FnScope ["web", "called", "found", "hand", "other"] ["web"] (defScope s_all_found) := ⟨rfl, rfl, rfl, by decide +kernel, rfl, by decide +kernel, by decide +kernel⟩
theorem ok_all_found {f : Addr} {fd : FuncData} (F : Fun K "all_found" "all_found" s_all_found f fd) {f_names : Addr} {fd_names : FuncData} (c_names : Cal P w K mg base CX0 "names" ["web"] 1 (sp_names K cl) f_names fd_names) {f_found_between : Addr} {fd_found_between : FuncData} (c_found_between : Cal P w K mg base CX0 "found_between" ["web", "called", "hand", "other"] 2 (sp_found_between K cl) f_found_between fd_found_between) (m_range : mg "range" = none) {tk_HANDS : Tok} (g_HANDS : mg "HANDS" = some (.int 8 tk_HANDS)) :
    FnOk P w K mg base CX0 3 f fd ["web"] (sp_all_found K cl) := by
  refine F.ok sc_all_found (fun vs H Q E h => ?_) (fun cdv A outer s H vs Q E hr h => ?_)
  · obtain ⟨amb, Ho, v_web_, web_, rfl, _⟩ := h
    rfl
  · obtain ⟨amb, Ho, v_web_, web_, rfl, z, d_web_, hw⟩ := h
    refine ⟨_, pss_cons (ps_set (i := 1) sc_all_found.nd rfl (Or.inl rfl) (pe_call c_names.ok (hr.mono (by decide)) (by rfl) c_names.g c_names.kp c_names.b .nil pass0 (pa_cons (pv 0) (pa_nil)))) (pss_cons (ps_set (i := 2) sc_all_found.nd rfl (Or.inl rfl) (pe_lst (pa_nil))) (pss_cons (ps_for PassesOwn.never rfl (pi_range1 (by rfl) m_range (pa_cons (pe_glob (v := .int 8) rfl g_HANDS ⟨_, rfl⟩) (pa_nil))) (pg_name (i := 3) sc_all_found.nd rfl (Or.inl rfl)) (pss_cons (ps_for PassesOwn.never rfl (pi_range1 (by rfl) m_range (pa_cons (pe_glob (v := .int 8) rfl g_HANDS ⟨_, rfl⟩) (pa_nil))) (pg_name (i := 4) sc_all_found.nd rfl (Or.inl rfl)) (pss_cons (ps_if (pt_cmpR (op_ne) (pv 4) (pv 3) (nomark _)) (pss_cons (ps_expr (pe_bm PySem.F.plainAttrs_list PySem.F.slot_list_extend PySem.F.type_list_extend mt_extend (pv 2) (pa_cons (pe_call c_found_between.ok (hr.mono (by decide)) (by rfl) c_found_between.g c_found_between.kp c_found_between.b .nil pass0 (pa_cons (pv 0) (pa_cons (pv 1) (pa_cons (pv 3) (pa_cons (pv 4) (pa_nil)))))) (pa_nil)))) (pss_nil)) (pss_nil)) (pss_nil))) (pss_nil))) (pss_cons (ps_ret (pv 2)) (pss_nil)))), ?_⟩
    refine l_asg (fun v => [_, some v, _, _, _]) (fun _ => rfl) ?_
    refine y_call ?_
    refine y_cons ?_
    refine y_var rfl ?_
    refine y_nil ?_
    refine ⟨amb, _, _, _, rfl, z, (LV.sub d_web_ mgE), ?_⟩
    refine run_mono3 hw (fun t1 hw v H Ho e z d2 => ?_)
    replace d_web_ := LV.mo d_web_ e
    have es4 := (Same.refl _).trans e
    refine l_d (K := K) (Ho := Ho) hw d2 (fun called_ v_called_ d_called_ hw => ?_)
    refine l_asg (fun v => [_, _, some v, _, _]) (fun _ => rfl) ?_
    refine k_lst ?_
    refine y_nil ?_
    refine k_lstk (K := K) (xs := ([] : (List ((P4 Int Int Int Int) × (P4 Int Int Int Int))))) z DqAll.nil (by show 0 ≤ sizeLine; decide) (fun H p5 ws6 z d7 => ?_)
    replace z : Zs ([(p5, HO.lst ws6)] ++ amb) H Ho := z
    have o8 := OL.mk (p := p5) d7
    refine l_o hw z o8 (fun found_ v_found_ g_found_ z d_found_ hw => ?_)
    refine y_for ?_
    refine k_iR1 ?_
    refine y_cons ?_
    refine y_c ?_
    refine y_nil ?_
    refine k_srcR1 (K := K) (Ho := Ho) hw.1 (fun J T => ?_)
    replace hw := (run_gd hw).2
    refine y_forL T hw (fun (s : (List ((P4 Int Int Int Int) × (P4 Int Int Int Int)))) (σ : L2.St) (H Ho : Hp) => ∃ (g_found_ : Grp) (y_hand_ : Option V) (y_other_ : Option V), σ = [some v_web_, some v_called_, some v_found_, y_hand_, y_other_] ∧ Zs (g_found_ ++ amb) H Ho ∧ OL K Ho v_found_ s g_found_) ⟨_, _, _, rfl, z, d_found_⟩ ?_ ?_ ?_ ?_
    · intro s σ H Ho hI
      obtain ⟨g_found_, y_hand_, y_other_, rfl, z, d_found_⟩ := hI
      exact ⟨_, z, mgN⟩
    · intro s σ H Ho H2 Ho2 hI e t
      obtain ⟨g_found_, y_hand_, y_other_, rfl, z, d_found_⟩ := hI
      exact ⟨_, _, _, rfl, t _ z, OL.mo d_found_ e⟩
    · intro hand_ v_hand_ s σ H Ho N e hI d_hand_ hw
      obtain ⟨found_, rfl⟩ : ∃ q, q = s := ⟨_, rfl⟩
      obtain ⟨g_found_, y_hand_, y_other_, rfl, z, d_found_⟩ := hI
      replace d_called_ := D.mo d_called_ e
      replace d_web_ := LV.mo d_web_ e
      have es9 := es4.trans e
      obtain rfl := d_int d_hand_
      refine y_gname (σ' := [some v_web_, some v_called_, some v_found_, some (V.int hand_), y_other_]) rfl ?_
      refine y_for ?_
      refine k_iR1 ?_
      refine y_cons ?_
      refine y_c ?_
      refine y_nil ?_
      refine k_srcR1 (K := K) (Ho := Ho) hw.1 (fun J T => ?_)
      replace hw := (run_gd hw).2
      refine y_forL T hw (fun (s : (List ((P4 Int Int Int Int) × (P4 Int Int Int Int)))) (σ : L2.St) (H Ho : Hp) => ∃ (g_found_ : Grp) (y_other_ : Option V), σ = [some v_web_, some v_called_, some v_found_, some (V.int hand_), y_other_] ∧ Zs (g_found_ ++ amb) H Ho ∧ OL K Ho v_found_ s g_found_) ⟨_, _, rfl, z, d_found_⟩ ?_ ?_ ?_ ?_
      · intro s σ H Ho hI
        obtain ⟨g_found_, y_other_, rfl, z, d_found_⟩ := hI
        exact ⟨_, z, mgN⟩
      · intro s σ H Ho H2 Ho2 hI e t
        obtain ⟨g_found_, y_other_, rfl, z, d_found_⟩ := hI
        exact ⟨_, _, rfl, t _ z, OL.mo d_found_ e⟩
      · intro other_ v_other_ s σ H Ho N e hI d_other_ hw
        obtain ⟨found_, rfl⟩ : ∃ q, q = s := ⟨_, rfl⟩
        obtain ⟨g_found_, y_other_, rfl, z, d_found_⟩ := hI
        replace d_called_ := D.mo d_called_ e
        replace d_web_ := LV.mo d_web_ e
        have es10 := (Same.refl _).trans e
        obtain rfl := d_int d_other_
        refine y_gname (σ' := [some v_web_, some v_called_, some v_found_, some (V.int hand_), some (V.int other_)]) rfl ?_
        refine y_ifS ?_
        refine y_test ?_
        refine y_op ?_
        refine y_var rfl ?_
        refine y_var rfl ?_
        refine y_nei ?_
        refine ⟨_, rfl, ?_⟩
        refine w_ifJ hw (fun (s : (List ((P4 Int Int Int Int) × (P4 Int Int Int Int)))) (σ : L2.St) (H : Hp) => ∃ Ho2, Same Ho Ho2 ∧ (fun (s : (List ((P4 Int Int Int Int) × (P4 Int Int Int Int)))) (σ : L2.St) (H Ho : Hp) => ∃ (g_found_ : Grp), σ = [some v_web_, some v_called_, some v_found_, some (V.int hand_), some (V.int other_)] ∧ Zs (g_found_ ++ amb) H Ho ∧ OL K Ho v_found_ s g_found_) s σ H Ho2) (fun hb hw => ?_) (fun hb hw => ?_) ?_
        · refine y_drop ?_
          refine y_bm ?_
          refine y_var rfl ?_
          refine g_tyL (OL.lv d_found_ mg0) z ?_
          refine y_cons ?_
          refine y_call ?_
          refine y_cons ?_
          refine y_var rfl ?_
          refine y_cons ?_
          refine y_var rfl ?_
          refine y_cons ?_
          refine y_var rfl ?_
          refine y_cons ?_
          refine y_var rfl ?_
          refine y_nil ?_
          refine ⟨(g_found_ ++ amb), _, _, _, _, _, _, _, _, _, rfl, z, (LV.sub d_web_ (mgS mgE)), (LV.of d_called_), (Dq.int _), (Dq.int _), ?_⟩
          refine run_mono3 hw (fun t11 hw v g13 H Ho e z d12 => ?_)
          replace d_called_ := D.mo d_called_ e
          replace d_found_ := OL.mo d_found_ e
          replace d_web_ := LV.mo d_web_ e
          have es14 := (Same.refl _).trans e
          refine y_nil ?_
          refine g_ext z d_found_ d12 hw (fun found_ g_found_ H z d_found_ hw => ?_)
          exact (run_ret hw) _ _ ⟨_, es14, ⟨_, rfl, z, d_found_⟩⟩
        · refine y_nxS ?_
          exact (run_ret hw) _ _ ⟨_, (Same.refl _), ⟨_, rfl, z, d_found_⟩⟩
        rintro found_ σ H ⟨Ho, e, g_found_, rfl, z, d_found_⟩ hw
        replace d_called_ := D.mo d_called_ e
        replace d_web_ := LV.mo d_web_ e
        have es15 := (Same.refl _).trans e
        exact (run_ret hw) _ _ _ es15 ⟨_, _, rfl, z, d_found_⟩
      intro s σ H Ho e hI hw
      obtain ⟨found_, rfl⟩ : ∃ q, q = s := ⟨_, rfl⟩
      obtain ⟨g_found_, y_other_, rfl, z, d_found_⟩ := hI
      replace d_called_ := D.mo d_called_ e
      replace d_web_ := LV.mo d_web_ e
      have es16 := (Same.refl _).trans e
      exact (run_ret hw) _ _ _ es16 ⟨_, _, _, rfl, z, d_found_⟩
    intro s σ H Ho e hI hw
    obtain ⟨found_, rfl⟩ : ∃ q, q = s := ⟨_, rfl⟩
    obtain ⟨g_found_, y_hand_, y_other_, rfl, z, d_found_⟩ := hI
    have es17 := es4.trans e
    refine y_ret ?_
    refine y_var rfl ?_
    refine l_fr d_found_ z (fun Ho e z d_found_ => ?_)
    have es18 := es17.trans e
    exact (run_ret hw) _ _ _ es18 z d_found_
def sp_strict_notes (K : PySem.W.Frag) (cl : Nat → Addr) : Sp := fun vs H Q E => ∃ (amb : Grp) (Ho : Hp) (v0 : V) (x0 : (List (P3 Int Str Int))), vs = [v0] ∧ Zs amb H Ho ∧ LV K amb Ho v0 x0 ∧ (m_strict_notes x0).run fun r => ∀ v g H' Ho', Same Ho Ho' → Zs (g ++ amb) H' Ho' → OL K Ho' v r g → Q v H'
abbrev s_strict_notes : Stmt := topS 15
theorem sc_strict_notes : FnScope ["web", "note", "want"] ["web"] (defScope s_strict_notes) := ⟨rfl, rfl, rfl, by decide +kernel, rfl, by decide +kernel, by decide +kernel⟩
theorem ok_strict_notes {f : Addr} {fd : FuncData} (F : Fun K "strict_notes" "strict_notes" s_strict_notes f fd) {f_all_found : Addr} {fd_all_found : FuncData} (c_all_found : Cal P w K mg base CX0 "all_found" ["web"] 3 (sp_all_found K cl) f_all_found fd_all_found) (m_sorted : mg "sorted" = none) :
    FnOk P w K mg base CX0 4 f fd ["web"] (sp_strict_notes K cl) := by
  refine F.ok sc_strict_notes (fun vs H Q E h => ?_) (fun cdv A outer s H vs Q E hr h => ?_)
  · obtain ⟨amb, Ho, v_web_, web_, rfl, _⟩ := h
    rfl
  · obtain ⟨amb, Ho, v_web_, web_, rfl, z, d_web_, hw⟩ := h
    refine ⟨_, pss_cons (ps_ret (pe_callB (zsorted (K := K) (d := 4) rfl (by decide)) (by rfl) m_sorted (by decide +kernel) (pa_cons (pe_lc (own := [("note", 1), ("want", 2)]) rfl sc_strict_notes.nd (zpi_list (K := K) rfl (pe_call c_all_found.ok (hr.mono (by decide)) (by rfl) c_all_found.g c_all_found.kp c_all_found.b .nil pass0 (pa_cons (pv 0) (pa_nil)))) (blkOk_by (N := ["web", "note", "want"]) (sc := defScope s_strict_notes) (by decide +kernel)) (fun _ _ _ _ _ => zpg_tup (K := K) (n := 2) rfl rfl (pgs_cons (pg_name (i := 1) sc_strict_notes.nd rfl (Or.inl rfl)) (pgs_cons (pg_name (i := 2) sc_strict_notes.nd rfl (Or.inl rfl)) (pgs_nil)))) (fun _ _ _ _ _ => pts_nil) (fun _ _ _ _ _ => pv 1)) (pa_nil)))) (pss_nil), ?_⟩
    refine y_ret ?_
    refine y_cb ?_
    refine y_cons ?_
    refine y_lc ?_
    refine k_iList ?_
    refine y_call ?_
    refine y_cons ?_
    refine y_var rfl ?_
    refine y_nil ?_
    refine ⟨amb, _, _, _, rfl, z, (LV.sub d_web_ mgE), ?_⟩
    refine run_mono3 hw (fun t1 hw v H Ho e z d2 => ?_)
    replace d_web_ := LV.mo d_web_ e
    have es4 := (Same.refl _).trans e
    refine k_srcL (r0 := ([] : Grp)) (LV.of d2) mgN z (fun J T => ?_)
    refine y_lcG z mgN T hw (fun r5 a x H Ho N N' e z dx hw => ?_) (fun t10 H Ho e hw p7 ws8 z d9 => ?_)
    · replace z : Zs ([r5] ++ amb) H Ho := z
      replace d_web_ := LV.mo d_web_ e
      have es6 := es4.trans e
      obtain ⟨note_, want_⟩ := a
      refine c_gt2 (fun v_note_ v_want_ => [some v_web_, some v_note_, some v_want_]) (fun _ _ => rfl) dx z (fun v_note_ v_want_ d_note_ d_want_ => ?_)
      refine ⟨rfl, ?_⟩
      refine y_yes (w_t ?_)
      replace hw := run_itT (run_bret hw) rfl
      refine y_var rfl ?_
      exact (run_ret hw) _ _ _ (Same.refl _) z d_note_
    replace d_web_ := LV.mo d_web_ e
    have es11 := es4.trans e
    replace z : Zs ([(p7, HO.lst ws8)] ++ amb) H Ho := z
    have o12 := OL.mk (p := p7) d9
    refine y_nil ?_
    refine y_sortK (α := (P4 Int Int Int Int)) (OL.lv o12 mg0) z (fun H p13 ws14 z d15 => ?_)
    replace z : Zs ([(p13, HO.lst ws14)] ++ ([(p7, HO.lst ws8)] ++ amb)) H Ho := z
    have o16 := OL.mk (p := p13) d15
    replace z : Zs ([(p13, HO.lst ws14)] ++ amb) _ _ := z.go [[(p13, HO.lst ws14)], [(p7, HO.lst ws8)]] amb [0]
    exact (run_ret hw) _ _ _ _ es11 z o16
def sp_wants_apart (K : PySem.W.Frag) (cl : Nat → Addr) : Sp := fun vs H Q E => ∃ (amb : Grp) (Ho : Hp) (v0 : V) (x0 : (List (P3 Int Str Int))), vs = [v0] ∧ Zs amb H Ho ∧ LV K amb Ho v0 x0 ∧ (m_wants_apart x0).run fun r => ∀ v g H' Ho', Same Ho Ho' → Zs (g ++ amb) H' Ho' → OL K Ho' v r g → Q v H'
abbrev s_wants_apart : Stmt := topS 16
theorem sc_wants_apart : FnScope ["web", "note", "want"] ["web"] (defScope s_wants_apart) := ⟨rfl, rfl, rfl, by decide +kernel, rfl, by decide +kernel, by decide +kernel⟩
theorem ok_wants_apart {f : Addr} {fd : FuncData} (F : Fun K "wants_apart" "wants_apart" s_wants_apart f fd) {f_all_found : Addr} {fd_all_found : FuncData} (c_all_found : Cal P w K mg base CX0 "all_found" ["web"] 3 (sp_all_found K cl) f_all_found fd_all_found) :
    FnOk P w K mg base CX0 4 f fd ["web"] (sp_wants_apart K cl) := by
  refine F.ok sc_wants_apart (fun vs H Q E h => ?_) (fun cdv A outer s H vs Q E hr h => ?_)
  · obtain ⟨amb, Ho, v_web_, web_, rfl, _⟩ := h
    rfl
  · obtain ⟨amb, Ho, v_web_, web_, rfl, z, d_web_, hw⟩ := h
    refine ⟨_, pss_cons (ps_ret (pe_lc (own := [("note", 1), ("want", 2)]) rfl sc_wants_apart.nd (zpi_list (K := K) rfl (pe_call c_all_found.ok (hr.mono (by decide)) (by rfl) c_all_found.g c_all_found.kp c_all_found.b .nil pass0 (pa_cons (pv 0) (pa_nil)))) (blkOk_by (N := ["web", "note", "want"]) (sc := defScope s_wants_apart) (by decide +kernel)) (fun _ _ _ _ _ => zpg_tup (K := K) (n := 2) rfl rfl (pgs_cons (pg_name (i := 1) sc_wants_apart.nd rfl (Or.inl rfl)) (pgs_cons (pg_name (i := 2) sc_wants_apart.nd rfl (Or.inl rfl)) (pgs_nil)))) (fun _ _ _ _ _ => pts_nil) (fun _ _ _ _ _ => pv 2))) (pss_nil), ?_⟩
    refine y_ret ?_
    refine y_lc ?_
    refine k_iList ?_
    refine y_call ?_
    refine y_cons ?_
    refine y_var rfl ?_
    refine y_nil ?_
    refine ⟨amb, _, _, _, rfl, z, (LV.sub d_web_ mgE), ?_⟩
    refine run_mono3 hw (fun t1 hw v H Ho e z d2 => ?_)
    replace d_web_ := LV.mo d_web_ e
    have es4 := (Same.refl _).trans e
    refine k_srcL (r0 := ([] : Grp)) (LV.of d2) mgN z (fun J T => ?_)
    refine y_lcG z mgN T hw (fun r5 a x H Ho N N' e z dx hw => ?_) (fun t10 H Ho e hw p7 ws8 z d9 => ?_)
    · replace z : Zs ([r5] ++ amb) H Ho := z
      replace d_web_ := LV.mo d_web_ e
      have es6 := es4.trans e
      obtain ⟨note_, want_⟩ := a
      refine c_gt2 (fun v_note_ v_want_ => [some v_web_, some v_note_, some v_want_]) (fun _ _ => rfl) dx z (fun v_note_ v_want_ d_note_ d_want_ => ?_)
      refine ⟨rfl, ?_⟩
      refine y_yes (w_t ?_)
      replace hw := run_itT (run_bret hw) rfl
      refine y_var rfl ?_
      exact (run_ret hw) _ _ _ (Same.refl _) z d_want_
    replace d_web_ := LV.mo d_web_ e
    have es11 := es4.trans e
    replace z : Zs ([(p7, HO.lst ws8)] ++ amb) H Ho := z
    have o12 := OL.mk (p := p7) d9
    exact (run_ret hw) _ _ _ _ es11 z o12
def sp_are_apart (K : PySem.W.Frag) (cl : Nat → Addr) : Sp := fun vs H Q E => ∃ (amb : Grp) (Ho : Hp) (v0 : V) (x0 : (List (Int × Int))), vs = [v0] ∧ Zs amb H Ho ∧ LV K amb Ho v0 x0 ∧ (m_are_apart x0).run fun r => ∀ v H' Ho', Same Ho Ho' → Zs amb H' Ho' → Z.D K Ho' v r → Q v H'
abbrev s_are_apart : Stmt := topS 17
theorem sc_are_apart : FnScope ["reaches", "row", "one", "other"] ["reaches"] (defScope s_are_apart) := ⟨rfl, rfl, rfl, by decide +kernel, rfl, by decide +kernel, by decide +kernel⟩
theorem ok_are_apart {f : Addr} {fd : FuncData} (F : Fun K "are_apart" "are_apart" s_are_apart f fd) (m_sorted : mg "sorted" = none) (m_zip : mg "zip" = none) (m_all : mg "all" = none) :
    FnOk P w K mg base CX0 1 f fd ["reaches"] (sp_are_apart K cl) := by
  refine F.ok sc_are_apart (fun vs H Q E h => ?_) (fun cdv A outer s H vs Q E hr h => ?_)
  · obtain ⟨amb, Ho, v_reaches_, reaches_, rfl, _⟩ := h
    rfl
  · obtain ⟨amb, Ho, v_reaches_, reaches_, rfl, z, d_reaches_, hw⟩ := h
    refine ⟨_, pss_cons (ps_set (i := 1) sc_are_apart.nd rfl (Or.inl rfl) (pe_callB (zsorted (K := K) (d := 2) rfl (by decide)) (by rfl) m_sorted (by decide +kernel) (pa_cons (pv 0) (pa_nil)))) (pss_cons (ps_ret (pe_callB (zall (K := K) rfl rfl) (by rfl) m_all (by decide +kernel) (pa_cons (pe_lc (own := [("one", 2), ("other", 3)]) rfl sc_are_apart.nd (zpi_zip (K := K) rfl (by rfl) m_zip (pa_cons (pv 1) (pa_cons (pe_slice (zsl_list (K := K) rfl) (pv 1) (po_some (pe_int)) po_none) (pa_nil)))) (blkOk_by (N := ["reaches", "row", "one", "other"]) (sc := defScope s_are_apart) (by decide +kernel)) (fun _ _ _ _ _ => zpg_tup (K := K) (n := 2) rfl rfl (pgs_cons (pg_name (i := 2) sc_are_apart.nd rfl (Or.inl rfl)) (pgs_cons (pg_name (i := 3) sc_are_apart.nd rfl (Or.inl rfl)) (pgs_nil)))) (fun _ _ _ _ _ => pts_nil) (fun _ _ _ _ _ => pe_cmpR (op_lt) (pe_ix (zix_tup (K := K) rfl) (pv 2) (pe_int) (fun _ _ => rfl)) (pe_ix (zix_tup (K := K) rfl) (pv 3) (pe_int) (fun _ _ => rfl)) (nomark _))) (pa_nil)))) (pss_nil)), ?_⟩
    refine l_asg (fun v => [_, some v, _, _]) (fun _ => rfl) ?_
    refine y_cb ?_
    refine y_cons ?_
    refine y_var rfl ?_
    refine y_nil ?_
    refine y_sortK (α := (Int × Int)) (LV.sub d_reaches_ mgE) z (fun H p1 ws2 z d3 => ?_)
    replace z : Zs ([(p1, HO.lst ws2)] ++ amb) H Ho := z
    have o4 := OL.mk (p := p1) d3
    refine l_fr o4 z (fun Ho e z d5 => ?_)
    have es6 := (Same.refl _).trans e
    refine l_d (K := K) (Ho := Ho) hw d5 (fun row_ v_row_ d_row_ hw => ?_)
    refine y_ret ?_
    refine y_cb ?_
    refine y_cons ?_
    refine y_lc ?_
    refine k_iZip ?_
    refine y_cons ?_
    refine y_var rfl ?_
    refine y_cons ?_
    refine y_sl ?_
    refine y_var rfl ?_
    refine y_part ?_
    refine y_c ?_
    refine ⟨_, rfl, ?_⟩
    refine y_noPart ?_
    refine y_slL (LV.of d_row_) z (fun H p7 ws8 z d9 => ?_)
    replace z : Zs ([(p7, HO.lst ws8)] ++ amb) H Ho := z
    have o10 := OL.mk (p := p7) d9
    refine y_nil ?_
    refine k_srcZ (r0 := [(p7, HO.lst ws8)]) (LV.of d_row_) (OL.lv o10 mgE) mg0 z (fun J T => ?_)
    refine y_lcG z mg0 T hw (fun r11 a x H Ho N N' e z dx hw => ?_) (fun t18 H Ho e hw p15 ws16 z d17 => ?_)
    · replace z : Zs ([r11] ++ ([(p7, HO.lst ws8)] ++ amb)) H Ho := z
      replace d_row_ := D.mo d_row_ e
      have es12 := es6.trans e
      obtain ⟨one_, other_⟩ := a
      refine c_gt2 (fun v_one_ v_other_ => [some v_reaches_, some v_row_, some v_one_, some v_other_]) (fun _ _ => rfl) dx z (fun v_one_ v_other_ d_one_ d_other_ => ?_)
      refine ⟨rfl, ?_⟩
      refine y_yes (w_t ?_)
      replace hw := run_itT (run_bret hw) rfl
      refine y_op ?_
      refine y_op ?_
      refine y_var rfl ?_
      refine y_c ?_
      refine y_ixT (y := one_.2) d_one_ z ⟨_, rfl, rfl⟩ (fun w d13 => ?_)
      first | obtain rfl := d_int d13 | cases d_int d13
      refine y_op ?_
      refine y_var rfl ?_
      refine y_c ?_
      refine y_ixT (y := other_.1) d_other_ z ⟨_, rfl, rfl⟩ (fun w d14 => ?_)
      first | obtain rfl := d_int d14 | cases d_int d14
      refine y_i0 ?_
      exact (run_ret hw) _ _ _ (Same.refl _) z (Dq.bl _)
    replace d_row_ := D.mo d_row_ e
    have es19 := es6.trans e
    replace z : Zs ([(p15, HO.lst ws16)] ++ ([(p7, HO.lst ws8)] ++ amb)) H Ho := z
    have o20 := OL.mk (p := p15) d17
    refine y_nil ?_
    refine y_all (OL.lv o20 mg0) z ?_
    replace z : Zs amb _ _ := z.go [[(p15, HO.lst ws16)], [(p7, HO.lst ws8)]] amb []
    exact (run_ret hw) _ _ _ es19 z (Dq.bl _)
def sp_apart_shows (K : PySem.W.Frag) (cl : Nat → Addr) : Sp := fun vs H Q E => ∃ (amb : Grp) (Ho : Hp) (v0 : V) (x0 : (List (P3 Int Str Int))) (v1 : V) (x1 : (List (P4 Int Int Int Int))), vs = [v0, v1] ∧ Zs amb H Ho ∧ LV K amb Ho v0 x0 ∧ LV K amb Ho v1 x1 ∧ (m_apart_shows x0 x1).run fun r => ∀ v H' Ho', Same Ho Ho' → Zs amb H' Ho' → Z.D K Ho' v r → Q v H'
abbrev s_apart_shows : Stmt := topS 18
theorem sc_apart_shows : FnScope ["web", "wants", "places", "reaches", "want", "reach", "hands"] ["web", "wants"] (defScope s_apart_shows) := ⟨rfl, rfl, rfl, by decide +kernel, rfl, by decide +kernel, by decide +kernel⟩
theorem ok_apart_shows {f : Addr} {fd : FuncData} (F : Fun K "apart_shows" "apart_shows" s_apart_shows f fd) {f_places_of : Addr} {fd_places_of : FuncData} (c_places_of : Cal P w K mg base CX0 "places_of" ["web"] 2 (sp_places_of K cl) f_places_of fd_places_of) {f_is_want : Addr} {fd_is_want : FuncData} (c_is_want : Cal P w K mg base CX0 "is_want" ["web", "places", "want"] 2 (sp_is_want K cl) f_is_want fd_is_want) {f_are_apart : Addr} {fd_are_apart : FuncData} (c_are_apart : Cal P w K mg base CX0 "are_apart" ["reaches"] 1 (sp_are_apart K cl) f_are_apart fd_are_apart) (m_all : mg "all" = none) :
    FnOk P w K mg base CX0 3 f fd ["web", "wants"] (sp_apart_shows K cl) := by
  refine F.ok sc_apart_shows (fun vs H Q E h => ?_) (fun cdv A outer s H vs Q E hr h => ?_)
  · obtain ⟨amb, Ho, v_web_, web_, v_wants_, wants_, rfl, _⟩ := h
    rfl
  · obtain ⟨amb, Ho, v_web_, web_, v_wants_, wants_, rfl, z, d_web_, d_wants_, hw⟩ := h
    refine ⟨_, pss_cons (ps_set (i := 2) sc_apart_shows.nd rfl (Or.inl rfl) (pe_call c_places_of.ok (hr.mono (by decide)) (by rfl) c_places_of.g c_places_of.kp c_places_of.b .nil pass0 (pa_cons (pv 0) (pa_nil)))) (pss_cons (ps_set (i := 3) sc_apart_shows.nd rfl (Or.inr rfl) (pe_dnewT)) (pss_cons (ps_for PassesOwn.never rfl (zpi_list (K := K) rfl (pv 1)) (pg_name (i := 4) sc_apart_shows.nd rfl (Or.inl rfl)) (pss_cons (ps_if (pt_not (pt_val (pe_call c_is_want.ok (hr.mono (by decide)) (by rfl) c_is_want.g c_is_want.kp c_is_want.b .nil pass0 (pa_cons (pv 0) (pa_cons (pv 2) (pa_cons (pv 4) (pa_nil))))))) (pss_cons (ps_ret (pe_bl)) (pss_nil)) (pss_nil)) (pss_cons (ps_set (i := 5) sc_apart_shows.nd rfl (Or.inl rfl) (pe_tup (pa_cons (pe_dget (room1 hr) (pv 2) (pe_tup (pa_cons (pe_ix (zix_tup (K := K) rfl) (pv 4) (pe_int) (fun _ _ => rfl)) (pa_cons (pe_ix (zix_tup (K := K) rfl) (pv 4) (pe_int) (fun _ _ => rfl)) (pa_nil)))) (fun _ _ => rfl)) (pa_cons (pe_dget (room1 hr) (pv 2) (pe_tup (pa_cons (pe_ix (zix_tup (K := K) rfl) (pv 4) (pe_int) (fun _ _ => rfl)) (pa_cons (pe_ix (zix_tup (K := K) rfl) (pv 4) (pe_int) (fun _ _ => rfl)) (pa_nil)))) (fun _ _ => rfl)) (pa_nil))))) (pss_cons (ps_expr (pe_bm PySem.F.plainAttrs_list PySem.F.slot_list_append PySem.F.type_list_append mt_append (pe_dsetd (room1 hr) (pv 3) (pe_tup (pa_cons (pe_ix (zix_tup (K := K) rfl) (pv 4) (pe_int) (fun _ _ => rfl)) (pa_cons (pe_ix (zix_tup (K := K) rfl) (pv 4) (pe_int) (fun _ _ => rfl)) (pa_nil)))) (pe_lst (pa_nil)) ⟨by rfl, by rfl, by rfl, by rfl⟩) (pa_cons (pv 5) (pa_nil)))) (pss_nil))))) (pss_cons (ps_ret (pe_callB (zall (K := K) rfl rfl) (by rfl) m_all (by decide +kernel) (pa_cons (pe_lock (pe_lc (own := [("hands", 6)]) rfl sc_apart_shows.nd (pi_keys (pv 3)) (blkOk_by (N := ["web", "wants", "places", "reaches", "want", "reach", "hands"]) (sc := defScope s_apart_shows) (by decide +kernel)) (fun _ _ _ _ _ => pg_name (i := 6) sc_apart_shows.nd rfl (Or.inl rfl)) (fun _ _ _ _ _ => pts_nil) (fun _ _ _ _ _ => pe_call c_are_apart.ok (hr.mono (by decide)) (by rfl) c_are_apart.g c_are_apart.kp c_are_apart.b .nil pass0 (pa_cons (pe_dget (room1 hr) (pv 3) (pv 6) (fun _ _ => rfl)) (pa_nil))))) (pa_nil)))) (pss_nil)))), ?_⟩
    refine l_asg (fun v => [_, _, some v, _, _, _, _]) (fun _ => rfl) ?_
    refine y_call ?_
    refine y_cons ?_
    refine y_var rfl ?_
    refine y_nil ?_
    refine ⟨amb, _, _, _, rfl, z, (LV.sub d_web_ mgE), ?_⟩
    refine run_mono3 hw (fun t1 hw v g3 H Ho e z d2 => ?_)
    replace d_wants_ := LV.mo d_wants_ e
    replace d_web_ := LV.mo d_web_ e
    have es4 := (Same.refl _).trans e
    refine d_o hw z d2 (fun places_ v_places_ g_places_ z d_places_ hw => ?_)
    refine l_asg (fun v => [_, _, _, some v, _, _, _]) (fun _ => rfl) ?_
    refine g_dnewTo (K := K) (α := (Int × Int)) z (fun H v5 g6 z o7 => ?_)
    refine t_o hw z o7 (fun reaches_ v_reaches_ g_reaches_ z d_reaches_ hw => ?_)
    refine y_for ?_
    refine k_iList ?_
    refine y_var rfl ?_
    refine k_srcL (r0 := amb) (LV.sub d_wants_ mgE) (mgS (mgS mgE)) z (fun J T => ?_)
    refine y_forC T hw (fun (s : (Dc (Int × Int) (List (Int × Int)))) (σ : L2.St) (H Ho : Hp) => ∃ (g_reaches_ : Grp) (y_want_ : Option V) (y_reach_ : Option V), σ = [some v_web_, some v_wants_, some v_places_, some v_reaches_, y_want_, y_reach_, none] ∧ Zs (g_reaches_ ++ (g_places_ ++ amb)) H Ho ∧ OT K Ho v_reaches_ s g_reaches_) ⟨_, _, _, rfl, z, d_reaches_⟩ ?_ ?_ ?_ ?_
    · intro s σ H Ho hI
      obtain ⟨g_reaches_, y_want_, y_reach_, rfl, z, d_reaches_⟩ := hI
      exact ⟨_, z, (mgS (mgS mgE))⟩
    · intro s σ H Ho H2 Ho2 hI e t
      obtain ⟨g_reaches_, y_want_, y_reach_, rfl, z, d_reaches_⟩ := hI
      exact ⟨_, _, _, rfl, t _ z, OT.mo d_reaches_ e⟩
    · intro want_ v_want_ s σ H Ho N B e hI d_want_ hw
      obtain ⟨reaches_, rfl⟩ : ∃ q, q = s := ⟨_, rfl⟩
      obtain ⟨g_reaches_, y_want_, y_reach_, rfl, z, d_reaches_⟩ := hI
      replace d_places_ := OD.mo d_places_ e
      replace d_web_ := LV.mo d_web_ e
      have es8 := es4.trans e
      refine y_gname (σ' := [some v_web_, some v_wants_, some v_places_, some v_reaches_, some v_want_, y_reach_, none]) rfl ?_
      refine y_ifS ?_
      refine y_not ?_
      refine y_tB ?_
      refine y_call ?_
      refine y_cons ?_
      refine y_var rfl ?_
      refine y_cons ?_
      refine y_var rfl ?_
      refine y_cons ?_
      refine y_var rfl ?_
      refine y_nil ?_
      refine ⟨(g_reaches_ ++ (g_places_ ++ amb)), _, _, _, _, _, _, _, rfl, z, (LV.sub d_web_ (mgS (mgS mgE))), ⟨_, d_places_, (mgS mg0)⟩, d_want_, ?_⟩
      refine run_mono3 hw (fun t9 hw v H Ho e z d10 => ?_)
      replace d_places_ := OD.mo d_places_ e
      replace d_reaches_ := OT.mo d_reaches_ e
      replace d_want_ := D.mo d_want_ e
      replace d_web_ := LV.mo d_web_ e
      have es12 := (Same.refl _).trans e
      first | obtain rfl := d_bool d10 | cases d_bool d10
      refine ⟨_, rfl, ?_⟩
      refine y_cases hw (fun hb hw => ?_) (fun hb hw => ?_)
      · refine y_ret ?_
        refine y_c ?_
        replace z : Zs amb _ _ := z.go [g_reaches_, g_places_] amb []
        exact (ctl_rt (run_ret hw)) _ _ _ (es8.trans es12) z (Dq.bl _)
      · refine y_nxS ?_
        refine l_asg (fun v => [_, _, _, _, _, some v, _]) (fun _ => rfl) ?_
        refine k_tup ?_
        refine y_cons ?_
        refine y_dget ?_
        refine y_var rfl ?_
        refine k_tup ?_
        refine y_cons ?_
        refine y_op ?_
        refine y_var rfl ?_
        refine y_c ?_
        refine y_ixT (y := want_.a) d_want_ z ⟨_, rfl, rfl⟩ (fun w d13 => ?_)
        first | obtain rfl := d_int d13 | cases d_int d13
        refine y_cons ?_
        refine y_op ?_
        refine y_var rfl ?_
        refine y_c ?_
        refine y_ixT (y := want_.b) d_want_ z ⟨_, rfl, rfl⟩ (fun w d14 => ?_)
        first | obtain rfl := d_int d14 | cases d_int d14
        refine y_nil ?_
        refine k_tupk (K := K) (x := (want_.a, want_.b)) z (by show 2 ≤ sizeLine; decide) _ rfl (DqAll.cons (Dq.int _) (DqAll.cons (Dq.int _) DqAll.nil)) (fun p H Ho e z d15 => ?_)
        replace d_places_ := OD.mo d_places_ e
        replace d_reaches_ := OT.mo d_reaches_ e
        replace d_want_ := D.mo d_want_ e
        replace d_web_ := LV.mo d_web_ e
        have es16 := es12.trans e
        refine g_dget ⟨_, d_places_, (mgS mg0)⟩ z d15 hw (fun t17 w d18 hw => ?_)
        first | obtain rfl := d_int d18 | cases d_int d18
        refine y_cons ?_
        refine y_dget ?_
        refine y_var rfl ?_
        refine k_tup ?_
        refine y_cons ?_
        refine y_op ?_
        refine y_var rfl ?_
        refine y_c ?_
        refine y_ixT (y := want_.c) d_want_ z ⟨_, rfl, rfl⟩ (fun w d19 => ?_)
        first | obtain rfl := d_int d19 | cases d_int d19
        refine y_cons ?_
        refine y_op ?_
        refine y_var rfl ?_
        refine y_c ?_
        refine y_ixT (y := want_.d) d_want_ z ⟨_, rfl, rfl⟩ (fun w d20 => ?_)
        first | obtain rfl := d_int d20 | cases d_int d20
        refine y_nil ?_
        refine k_tupk (K := K) (x := (want_.c, want_.d)) z (by show 2 ≤ sizeLine; decide) _ rfl (DqAll.cons (Dq.int _) (DqAll.cons (Dq.int _) DqAll.nil)) (fun p H Ho e z d21 => ?_)
        replace d_places_ := OD.mo d_places_ e
        replace d_reaches_ := OT.mo d_reaches_ e
        replace d_want_ := D.mo d_want_ e
        replace d_web_ := LV.mo d_web_ e
        have es22 := es16.trans e
        refine g_dget ⟨_, d_places_, (mgS mg0)⟩ z d21 hw (fun t23 w d24 hw => ?_)
        first | obtain rfl := d_int d24 | cases d_int d24
        refine y_nil ?_
        refine k_tupk (K := K) (x := (t17, t23)) z (by show 2 ≤ sizeLine; decide) _ rfl (DqAll.cons (Dq.int _) (DqAll.cons (Dq.int _) DqAll.nil)) (fun p H Ho e z d25 => ?_)
        replace d_places_ := OD.mo d_places_ e
        replace d_reaches_ := OT.mo d_reaches_ e
        replace d_want_ := D.mo d_want_ e
        replace d_web_ := LV.mo d_web_ e
        have es26 := es22.trans e
        refine l_d (K := K) (Ho := Ho) hw d25 (fun reach_ v_reach_ d_reach_ hw => ?_)
        refine y_drop ?_
        refine y_bm ?_
        refine y_dsetd (y_var rfl ?_)
        refine g_isdT z d_reaches_ (fun a27 ea27 => ?_)
        refine k_tup ?_
        refine y_cons ?_
        refine y_op ?_
        refine y_var rfl ?_
        refine y_c ?_
        refine y_ixT (y := want_.a) d_want_ z ⟨_, rfl, rfl⟩ (fun w d28 => ?_)
        first | obtain rfl := d_int d28 | cases d_int d28
        refine y_cons ?_
        refine y_op ?_
        refine y_var rfl ?_
        refine y_c ?_
        refine y_ixT (y := want_.c) d_want_ z ⟨_, rfl, rfl⟩ (fun w d29 => ?_)
        first | obtain rfl := d_int d29 | cases d_int d29
        refine y_nil ?_
        refine k_tupk (K := K) (x := (want_.a, want_.c)) z (by show 2 ≤ sizeLine; decide) _ rfl (DqAll.cons (Dq.int _) (DqAll.cons (Dq.int _) DqAll.nil)) (fun p H Ho e z d30 => ?_)
        replace d_places_ := OD.mo d_places_ e
        replace d_reach_ := D.mo d_reach_ e
        replace d_reaches_ := OT.mo d_reaches_ e
        replace d_want_ := D.mo d_want_ e
        replace d_web_ := LV.mo d_web_ e
        have es31 := es26.trans e
        refine k_lst ?_
        refine y_nil ?_
        refine k_lstk (K := K) (xs := ([] : (List (Int × Int)))) z DqAll.nil (by show 0 ≤ sizeLine; decide) (fun H p32 ws33 z d34 => ?_)
        replace z : Zs ([(p32, HO.lst ws33)] ++ (g_reaches_ ++ (g_places_ ++ amb))) H Ho := z
        have o35 := OL.mk (p := p32) d34
        cases d34
        refine g_setd ea27 z d_reaches_ d30 (sd_h1 hw) (fun u36 g37 H z o38 => ?_)
        refine g_tyAt z o38 ?_
        refine y_cons ?_
        refine y_var rfl ?_
        refine y_nil ?_
        refine g_appAt z o38 d_reach_ (sd_h2 hw) (fun reaches_ g_reaches_ H hm z d_reaches_ => ?_)
        obtain ⟨reaches_, d_reaches_, hw⟩ := sd_run hw hm d_reaches_
        exact ctl_nx (run_ret hw) _ _ _ es31 ⟨_, _, _, rfl, z, d_reaches_⟩
    intro s σ H Ho e hI hw
    obtain ⟨reaches_, rfl⟩ : ∃ q, q = s := ⟨_, rfl⟩
    obtain ⟨g_reaches_, y_want_, y_reach_, rfl, z, d_reaches_⟩ := hI
    replace d_places_ := OD.mo d_places_ e
    have es39 := es4.trans e
    refine y_ret ?_
    refine y_cb ?_
    refine y_cons ?_
    refine t_fr d_reaches_ z (fun Ho g40 e z d_reaches_ => ?_)
    replace d_places_ := OD.mo d_places_ e
    have es41 := es39.trans e
    have o45 := d_reaches_
    refine k_lock d_reaches_ z (fun g42 H Q' z d43 hL44 => ?_)
    refine y_lc ?_
    refine k_iKeys ?_
    refine y_var rfl ?_
    refine k_srcK d43 mg0 z (fun J T => ?_)
    refine y_lcK (K := K) z mg0 T hw (fun r46 hands_ v_hands_ H Ho N N' e z d_hands_ hw => ?_) (fun t57 H Ho e hw p54 ws55 z d56 => ?_)
    · replace z : Zs ([r46] ++ (g42 ++ (g_places_ ++ amb))) H Ho := z
      replace d_places_ := OD.mo d_places_ e
      replace d43 := OF.mo d43 e
      have es47 := es41.trans e
      refine y_gname (σ' := [some v_web_, some v_wants_, some v_places_, some v_reaches_, y_want_, y_reach_, some v_hands_]) rfl ?_
      refine ⟨rfl, ?_⟩
      refine y_yes (w_t ?_)
      replace hw := run_itT (run_bret hw) rfl
      refine y_call ?_
      refine y_cons ?_
      refine y_dget ?_
      refine y_var rfl ?_
      refine y_var rfl ?_
      refine g_dgetF d43 (mgS mg0) z d_hands_ hw (fun t48 w d49 hw => ?_)
      refine y_nil ?_
      refine ⟨([r46] ++ (g42 ++ (g_places_ ++ amb))), _, _, _, rfl, z, (LV.of d49), ?_⟩
      refine run_mono3 hw (fun t50 hw v H Ho e z d51 => ?_)
      replace d_places_ := OD.mo d_places_ e
      replace d43 := OF.mo d43 e
      have es53 := (Same.refl _).trans e
      first | obtain rfl := d_bool d51 | cases d_bool d51
      exact (run_ret hw) _ _ _ es53 z (Dq.bl _)
    replace d_places_ := OD.mo d_places_ e
    replace d43 := OF.mo d43 e
    have es58 := es41.trans e
    replace o45 := OD.mo o45 e
    replace z : Zs ([(p54, HO.lst ws55)] ++ (g42 ++ (g_places_ ++ amb))) H Ho := z
    have o59 := OL.mk (p := p54) d56
    replace z : Zs (g42 ++ ([(p54, HO.lst ws55)] ++ (g_places_ ++ amb))) _ _ := z.go [[(p54, HO.lst ws55)], g42, g_places_] amb [1, 0, 2]
    refine hL44 _ _ _ _ z (fun H z => ?_)
    refine y_nil ?_
    refine y_all (OL.lv o59 (mgS mg0)) z ?_
    replace z : Zs amb _ _ := z.go [g40, [(p54, HO.lst ws55)], g_places_] amb []
    exact (run_ret hw) _ _ _ es58 z (Dq.bl _)
def sp_law_spring (K : PySem.W.Frag) (cl : Nat → Addr) : Sp := fun vs H Q E => ∃ (amb : Grp) (Ho : Hp) (v0 : V) (x0 : (List Int)), vs = [v0] ∧ Zs amb H Ho ∧ LV K amb Ho v0 x0 ∧ (m_law_spring x0).run fun r => ∀ v g H' Ho', Same Ho Ho' → Zs (g ++ amb) H' Ho' → OH K Ho' v r g → Q v H'
abbrev s_law_spring : Stmt := topS 20
theorem sc_law_spring : FnScope ["script", "figures", "stir", "cell"] ["script"] (defScope s_law_spring) := ⟨rfl, rfl, rfl, by decide +kernel, rfl, by decide +kernel, by decide +kernel⟩
theorem ok_law_spring {f : Addr} {fd : FuncData} (F : Fun K "_law_spring" "_law_spring" s_law_spring f fd) (m_abs : mg "abs" = none) :
    FnOk P w K mg base CX0 1 f fd ["script"] (sp_law_spring K cl) := by
  refine F.ok sc_law_spring (fun vs H Q E h => ?_) (fun cdv A outer s H vs Q E hr h => ?_)
  · obtain ⟨amb, Ho, v_script_, script_, rfl, _⟩ := h
    rfl
  · obtain ⟨amb, Ho, v_script_, script_, rfl, z, d_script_, hw⟩ := h
    refine ⟨_, pss_cons (ps_set (i := 1) sc_law_spring.nd rfl (Or.inl rfl) (pe_int)) (pss_cons (ps_set (i := 2) sc_law_spring.nd rfl (Or.inl rfl) (pe_int)) (pss_cons (ps_for PassesOwn.never rfl (zpi_list (K := K) rfl (pe_slice (zsl_list (K := K) rfl) (pv 0) po_none (po_some (pe_int)))) (pg_name (i := 3) sc_law_spring.nd rfl (Or.inl rfl)) (pss_cons (ps_if (pt_cmpR (op_ge) (pe_callB call_abs (by rfl) m_abs (by decide +kernel) (pa_cons (pv 3) (pa_nil))) (pe_op op_pow (pe_int) (pe_int)) (nomark _)) (pss_cons (ps_set (i := 1) sc_law_spring.nd rfl (Or.inl rfl) (pe_op op_add (pe_op op_mulW (pv 1) (pe_op op_pow (pe_int) (pe_int))) (pe_op op_mod (pe_callB call_abs (by rfl) m_abs (by decide +kernel) (pa_cons (pv 3) (pa_nil))) (pe_op op_pow (pe_int) (pe_int))))) (pss_nil)) (pss_nil)) (pss_cons (ps_set (i := 2) sc_law_spring.nd rfl (Or.inl rfl) (pe_op op_mod (pe_op op_add (pe_op op_add (pe_op op_mulW (pv 2) (pe_int)) (pe_op op_mod (pv 3) (pe_int))) (pe_int)) (pe_int))) (pss_nil)))) (pss_cons (ps_ret (pe_lst (pa_cons (pv 1) (pa_cons (pv 2) (pa_cons (pe_int) (pa_nil)))))) (pss_nil)))), ?_⟩
    refine l_asg (fun v => [_, some v, _, _]) (fun _ => rfl) ?_
    refine y_c ?_
    refine l_i hw (fun figures_ hw => ?_)
    refine l_asg (fun v => [_, _, some v, _]) (fun _ => rfl) ?_
    refine y_c ?_
    refine l_i hw (fun stir_ hw => ?_)
    refine y_for ?_
    refine k_iList ?_
    refine y_sl ?_
    refine y_var rfl ?_
    refine y_noPart ?_
    refine y_part ?_
    refine y_c ?_
    refine ⟨_, rfl, ?_⟩
    refine y_slL (LV.sub d_script_ mgE) z (fun H p1 ws2 z d3 => ?_)
    replace z : Zs ([(p1, HO.lst ws2)] ++ amb) H Ho := z
    have o4 := OL.mk (p := p1) d3
    refine k_srcL (r0 := [(p1, HO.lst ws2)]) (OL.lv o4 mgE) mg0 z (fun J T => ?_)
    refine y_forL T hw (fun (s : Int × Int) (σ : L2.St) (H Ho : Hp) => ∃ (y_cell_ : Option V), σ = [some v_script_, some (V.int s.1), some (V.int s.2), y_cell_] ∧ Zs ([(p1, HO.lst ws2)] ++ amb) H Ho) ⟨_, rfl, z⟩ ?_ ?_ ?_ ?_
    · intro s σ H Ho hI
      obtain ⟨figures_, stir_⟩ := s
      obtain ⟨y_cell_, rfl, z⟩ := hI
      exact ⟨_, z, mg0⟩
    · intro s σ H Ho H2 Ho2 hI e t
      obtain ⟨figures_, stir_⟩ := s
      obtain ⟨y_cell_, rfl, z⟩ := hI
      exact ⟨_, rfl, t _ z⟩
    · intro cell_ v_cell_ s σ H Ho N e hI d_cell_ hw
      obtain ⟨figures_, stir_⟩ := s
      obtain ⟨y_cell_, rfl, z⟩ := hI
      have es5 := (Same.refl _).trans e
      obtain rfl := d_int d_cell_
      refine y_gname (σ' := [some v_script_, some (V.int figures_), some (V.int stir_), some (V.int cell_)]) rfl ?_
      refine y_ifS ?_
      refine y_test ?_
      refine y_op ?_
      refine y_cb ?_
      refine y_cons ?_
      refine y_var rfl ?_
      refine y_nil ?_
      refine ⟨_, rfl, ?_⟩
      refine y_op ?_
      refine y_c ?_
      refine y_c ?_
      refine y_ig hw.1 ?_
      replace hw := (run_gd hw).2
      refine y_i0 ?_
      refine ⟨_, rfl, ?_⟩
      refine w_ifJ hw (fun (s : Int) (σ : L2.St) (H : Hp) => ∃ Ho2, Same Ho Ho2 ∧ (fun (s : Int) (σ : L2.St) (H Ho : Hp) => σ = [some v_script_, some (V.int s), some (V.int stir_), some (V.int cell_)] ∧ Zs ([(p1, HO.lst ws2)] ++ amb) H Ho) s σ H Ho2) (fun hb hw => ?_) (fun hb hw => ?_) ?_
      · refine l_asg (fun v => [_, some v, _, _]) (fun _ => rfl) ?_
        refine y_op ?_
        refine y_op ?_
        refine y_var rfl ?_
        refine y_op ?_
        refine y_c ?_
        refine y_c ?_
        refine y_ig hw.1 ?_
        replace hw := (run_gd hw).2
        refine y_ig hw.1 ?_
        replace hw := (run_gd hw).2
        refine y_op ?_
        refine y_cb ?_
        refine y_cons ?_
        refine y_var rfl ?_
        refine y_nil ?_
        refine ⟨_, rfl, ?_⟩
        refine y_op ?_
        refine y_c ?_
        refine y_c ?_
        refine y_ig hw.1 ?_
        replace hw := (run_gd hw).2
        refine y_ig hw.1 ?_
        replace hw := (run_gd hw).2
        refine y_i0 ?_
        refine l_i hw (fun figures_ hw => ?_)
        exact (run_ret hw) _ _ ⟨_, (Same.refl _), ⟨rfl, z⟩⟩
      · refine y_nxS ?_
        exact (run_ret hw) _ _ ⟨_, (Same.refl _), ⟨rfl, z⟩⟩
      rintro figures_ σ H ⟨Ho, e, rfl, z⟩ hw
      have es6 := (Same.refl _).trans e
      refine l_asg (fun v => [_, _, some v, _]) (fun _ => rfl) ?_
      refine y_op ?_
      refine y_op ?_
      refine y_op ?_
      refine y_op ?_
      refine y_var rfl ?_
      refine y_c ?_
      refine y_ig hw.1 ?_
      replace hw := (run_gd hw).2
      refine y_op ?_
      refine y_var rfl ?_
      refine y_c ?_
      refine y_ig (by decide) ?_
      refine y_i0 ?_
      refine y_c ?_
      refine y_i0 ?_
      refine y_c ?_
      refine y_ig (by decide) ?_
      refine l_i hw (fun stir_ hw => ?_)
      exact (run_ret hw) _ _ _ es6 ⟨_, rfl, z⟩
    intro s σ H Ho e hI hw
    obtain ⟨figures_, stir_⟩ := s
    obtain ⟨y_cell_, rfl, z⟩ := hI
    have es7 := (Same.refl _).trans e
    replace z : Zs amb _ _ := z.go [[(p1, HO.lst ws2)]] amb []
    refine y_ret ?_
    refine k_lst ?_
    refine y_cons ?_
    refine y_var rfl ?_
    refine y_cons ?_
    refine y_var rfl ?_
    refine y_cons ?_
    refine y_c ?_
    refine y_nil ?_
    refine k_hlst (K := K) (x := (⟨figures_, stir_, (0 : Int)⟩ : (H3 Int Int Int))) z (DqAll.cons (Dq.int _) (DqAll.cons (Dq.int _) (DqAll.cons (Dq.int _) DqAll.nil))) (by show 3 ≤ sizeLine; decide) (fun H p10 g8 z o9 => ?_)
    exact (run_ret hw) _ _ _ _ es7 z o9
def sp_law_draw (K : PySem.W.Frag) (cl : Nat → Addr) : Sp := fun vs H Q E => ∃ (amb : Grp) (Ho : Hp) (v0 : V) (x0 : (H3 Int Int Int)) (g0 : Grp) (v1 : V) (x1 : Int), vs = [v0, v1] ∧ Zs (g0 ++ amb) H Ho ∧ OH K Ho v0 x0 g0 ∧ Z.D K Ho v1 x1 ∧ (m_law_draw x0 x1).run fun r => ∀ v h0 H' Ho', Same Ho Ho' → Zs (h0 ++ amb) H' Ho' → Z.D K Ho' v r.1 → OH K Ho' v0 r.2 h0 → Q v H'
abbrev s_law_draw : Stmt := topS 21
theorem sc_law_draw : FnScope ["spring", "many", "found", "stir"] ["spring", "many"] (defScope s_law_draw) := ⟨rfl, rfl, rfl, by decide +kernel, rfl, by decide +kernel, by decide +kernel⟩
theorem ok_law_draw {f : Addr} {fd : FuncData} (F : Fun K "_law_draw" "_law_draw" s_law_draw f fd) :
    FnOk P w K mg base CX0 1 f fd ["spring", "many"] (sp_law_draw K cl) := by
  refine F.ok sc_law_draw (fun vs H Q E h => ?_) (fun cdv A outer s H vs Q E hr h => ?_)
  · obtain ⟨amb, Ho, v_spring_, spring_, g_spring_, v_many_, many_, rfl, _⟩ := h
    rfl
  · obtain ⟨amb, Ho, v_spring_, spring_, g_spring_, v_many_, many_, rfl, z, d_spring_, d_many_, hw⟩ := h
    refine ⟨_, pss_cons (ps_if (pt_cmpR (op_gt) (pe_ix (zix_list (K := K) rfl) (pv 0) (pe_int) (fun _ _ => rfl)) (pe_int) (nomark _)) (pss_cons (ps_set (i := 2) sc_law_draw.nd rfl (Or.inl rfl) (pe_op op_mod (pe_ix (zix_list (K := K) rfl) (pv 0) (pe_int) (fun _ _ => rfl)) (pv 1))) (pss_cons (ps_asg (pe_op op_fdivW (pe_ix (zix_list (K := K) rfl) (pv 0) (pe_int) (fun _ _ => rfl)) (pv 1)) (pg_sub (pv 0) (pe_int) set_list)) (pss_cons (ps_ret (pv 2)) (pss_nil)))) (pss_nil)) (pss_cons (ps_asg (pe_op op_add (pe_ix (zix_list (K := K) rfl) (pv 0) (pe_int) (fun _ _ => rfl)) (pe_int)) (pg_sub (pv 0) (pe_int) set_list)) (pss_cons (ps_set (i := 3) sc_law_draw.nd rfl (Or.inl rfl) (pe_op op_mod (pe_op op_mulW (pe_ix (zix_list (K := K) rfl) (pv 0) (pe_int) (fun _ _ => rfl)) (pe_ix (zix_list (K := K) rfl) (pv 0) (pe_int) (fun _ _ => rfl))) (pe_int))) (pss_cons (ps_asg (pe_op op_mod (pe_op op_add (pe_op op_add (pv 3) (pe_op op_mulW (pe_op op_mulW (pe_int) (pe_ix (zix_list (K := K) rfl) (pv 0) (pe_int) (fun _ _ => rfl))) (pe_ix (zix_list (K := K) rfl) (pv 0) (pe_int) (fun _ _ => rfl)))) (pe_int)) (pe_int)) (pg_sub (pv 0) (pe_int) set_list)) (pss_cons (ps_ret (pe_op op_mod (pe_op op_fdivW (pe_ix (zix_list (K := K) rfl) (pv 0) (pe_int) (fun _ _ => rfl)) (pe_int)) (pv 1))) (pss_nil))))), ?_⟩
    obtain rfl := d_int d_many_
    refine y_ifS ?_
    refine y_test ?_
    refine y_op ?_
    refine y_op ?_
    refine y_var rfl ?_
    refine y_c ?_
    refine h_ix (y := spring_.a) d_spring_ z rfl (fun w d1 => ?_)
    first | obtain rfl := d_int d1 | cases d_int d1
    refine y_c ?_
    refine y_i0 ?_
    refine ⟨_, rfl, ?_⟩
    refine y_cases hw (fun hb hw => ?_) (fun hb hw => ?_)
    · refine l_asg (fun v => [_, _, some v, _]) (fun _ => rfl) ?_
      refine y_op ?_
      refine y_op ?_
      refine y_var rfl ?_
      refine y_c ?_
      refine h_ix (y := spring_.a) d_spring_ z rfl (fun w d2 => ?_)
      first | obtain rfl := d_int d2 | cases d_int d2
      refine y_var rfl ?_
      refine y_ig hw.1 ?_
      replace hw := (run_gd hw).2
      refine l_i hw (fun found_ hw => ?_)
      refine y_asgG ?_
      refine y_op ?_
      refine y_op ?_
      refine y_var rfl ?_
      refine y_c ?_
      refine h_ix (y := spring_.a) d_spring_ z rfl (fun w d3 => ?_)
      first | obtain rfl := d_int d3 | cases d_int d3
      refine y_var rfl ?_
      refine y_ig hw.1 ?_
      replace hw := (run_gd hw).2
      refine y_gsub ?_
      refine y_var rfl ?_
      refine y_c ?_
      refine h_st (y := ({ spring_ with a := (spring_.a / many_) } : (H3 Int Int Int))) z d_spring_ (Dq.int _) rfl rfl (fun g_spring_ H z d_spring_ => ?_)
      refine h_nm hw d_spring_ (fun spring_ d_spring_ hw => ?_)
      refine y_ret ?_
      refine y_var rfl ?_
      exact (run_ret hw) _ _ _ _ (Same.refl _) z (Dq.int _) d_spring_
    · refine y_nxS ?_
      refine y_asgG ?_
      refine y_op ?_
      refine y_op ?_
      refine y_var rfl ?_
      refine y_c ?_
      refine h_ix (y := spring_.c) d_spring_ z rfl (fun w d4 => ?_)
      first | obtain rfl := d_int d4 | cases d_int d4
      refine y_c ?_
      refine y_i0 ?_
      refine y_gsub ?_
      refine y_var rfl ?_
      refine y_c ?_
      refine h_st (y := ({ spring_ with c := (spring_.c + (1 : Int)) } : (H3 Int Int Int))) z d_spring_ (Dq.int _) rfl rfl (fun g_spring_ H z d_spring_ => ?_)
      refine h_nm hw d_spring_ (fun spring_ d_spring_ hw => ?_)
      refine l_asg (fun v => [_, _, _, some v]) (fun _ => rfl) ?_
      refine y_op ?_
      refine y_op ?_
      refine y_op ?_
      refine y_var rfl ?_
      refine y_c ?_
      refine h_ix (y := spring_.b) d_spring_ z rfl (fun w d5 => ?_)
      first | obtain rfl := d_int d5 | cases d_int d5
      refine y_op ?_
      refine y_var rfl ?_
      refine y_c ?_
      refine h_ix (y := spring_.b) d_spring_ z rfl (fun w d6 => ?_)
      first | obtain rfl := d_int d6 | cases d_int d6
      refine y_ig hw.1 ?_
      replace hw := (run_gd hw).2
      refine y_c ?_
      refine y_ig (by decide) ?_
      refine l_i hw (fun stir_ hw => ?_)
      refine y_asgG ?_
      refine y_op ?_
      refine y_op ?_
      refine y_op ?_
      refine y_var rfl ?_
      refine y_op ?_
      refine y_op ?_
      refine y_c ?_
      refine y_op ?_
      refine y_var rfl ?_
      refine y_c ?_
      refine h_ix (y := spring_.c) d_spring_ z rfl (fun w d7 => ?_)
      first | obtain rfl := d_int d7 | cases d_int d7
      refine y_ig hw.1 ?_
      replace hw := (run_gd hw).2
      refine y_op ?_
      refine y_var rfl ?_
      refine y_c ?_
      refine h_ix (y := spring_.b) d_spring_ z rfl (fun w d8 => ?_)
      first | obtain rfl := d_int d8 | cases d_int d8
      refine y_ig hw.1 ?_
      replace hw := (run_gd hw).2
      refine y_i0 ?_
      refine y_c ?_
      refine y_i0 ?_
      refine y_c ?_
      refine y_ig (by decide) ?_
      refine y_gsub ?_
      refine y_var rfl ?_
      refine y_c ?_
      refine h_st (y := ({ spring_ with b := (((stir_ + (((7919 : Int) * spring_.c) * spring_.b)) + (104729 : Int)) % (2305843009213693951 : Int)) } : (H3 Int Int Int))) z d_spring_ (Dq.int _) rfl rfl (fun g_spring_ H z d_spring_ => ?_)
      refine h_nm hw d_spring_ (fun spring_ d_spring_ hw => ?_)
      refine y_ret ?_
      refine y_op ?_
      refine y_op ?_
      refine y_op ?_
      refine y_var rfl ?_
      refine y_c ?_
      refine h_ix (y := spring_.b) d_spring_ z rfl (fun w d9 => ?_)
      first | obtain rfl := d_int d9 | cases d_int d9
      refine y_c ?_
      refine y_ig hw.1 ?_
      replace hw := (run_gd hw).2
      refine y_var rfl ?_
      refine y_ig hw.1 ?_
      replace hw := (run_gd hw).2
      exact (run_ret hw) _ _ _ _ (Same.refl _) z (Dq.int _) d_spring_
def sp_law_web (K : PySem.W.Frag) (cl : Nat → Addr) : Sp := fun vs H Q E => ∃ (amb : Grp) (Ho : Hp) (v0 : V) (x0 : (H3 Int Int Int)) (g0 : Grp) (v1 : V) (x1 : Int), vs = [v0, v1] ∧ Zs (g0 ++ amb) H Ho ∧ OH K Ho v0 x0 g0 ∧ Z.D K Ho v1 x1 ∧ (m_law_web x0 x1).run fun r => ∀ v h0 H' Ho', Same Ho Ho' → Zs (h0 ++ amb) H' Ho' → Z.D K Ho' v r.1 → OH K Ho' v0 r.2 h0 → Q v H'
abbrev s_law_web : Stmt := topS 22
theorem sc_law_web : FnScope ["spring", "most", "shape", "size", "hands", "first", "room", "base", "kinds", "web", "at", "hand", "kind"] ["spring", "most"] (defScope s_law_web) := ⟨rfl, rfl, rfl, by decide +kernel, rfl, by decide +kernel, by decide +kernel⟩
theorem ok_law_web {f : Addr} {fd : FuncData} (F : Fun K "_law_web" "_law_web" s_law_web f fd) {f_law_draw : Addr} {fd_law_draw : FuncData} (c_law_draw : Cal P w K mg base CX0 "_law_draw" ["spring", "many"] 1 (sp_law_draw K cl) f_law_draw fd_law_draw) (m_int : mg "int" = none) (m_range : mg "range" = none) (m_len : mg "len" = none) :
    FnOk P w K mg base CX0 2 f fd ["spring", "most"] (sp_law_web K cl) := by
  refine F.ok sc_law_web (fun vs H Q E h => ?_) (fun cdv A outer s H vs Q E hr h => ?_)
  · obtain ⟨amb, Ho, v_spring_, spring_, g_spring_, v_most_, most_, rfl, _⟩ := h
    rfl
  · obtain ⟨amb, Ho, v_spring_, spring_, g_spring_, v_most_, most_, rfl, z, d_spring_, d_most_, hw⟩ := h
    refine ⟨_, pss_cons (ps_set (i := 2) sc_law_web.nd rfl (Or.inl rfl) (pe_call c_law_draw.ok (hr.mono (by decide)) (by rfl) c_law_draw.g c_law_draw.kp c_law_draw.b .nil pass0 (pa_cons (pv 0) (pa_cons (pe_int) (pa_nil))))) (pss_cons (ps_set (i := 3) sc_law_web.nd rfl (Or.inl rfl) (pe_call c_law_draw.ok (hr.mono (by decide)) (by rfl) c_law_draw.g c_law_draw.kp c_law_draw.b .nil pass0 (pa_cons (pv 0) (pa_cons (pe_ix (zix_list (K := K) rfl) (pe_lst (pa_cons (pe_int) (pa_cons (pe_op op_add (pv 1) (pe_int)) (pa_nil)))) (pe_callTy call_int1 (by rfl) m_int (by decide +kernel) (pa_cons (pe_cmpR (op_eq) (pv 2) (pe_int) (nomark _)) (pa_nil))) (fun _ _ => rfl)) (pa_nil))))) (pss_cons (ps_set (i := 4) sc_law_web.nd rfl (Or.inl rfl) (pe_op op_add (pe_int) (pe_call c_law_draw.ok (hr.mono (by decide)) (by rfl) c_law_draw.g c_law_draw.kp c_law_draw.b .nil pass0 (pa_cons (pv 0) (pa_cons (pe_int) (pa_nil)))))) (pss_cons (ps_set (i := 5) sc_law_web.nd rfl (Or.inl rfl) (pe_call c_law_draw.ok (hr.mono (by decide)) (by rfl) c_law_draw.g c_law_draw.kp c_law_draw.b .nil pass0 (pa_cons (pv 0) (pa_cons (pe_int) (pa_nil))))) (pss_cons (ps_set (i := 6) sc_law_web.nd rfl (Or.inl rfl) (pe_ix (zix_list (K := K) rfl) (pe_lst (pa_cons (pe_int) (pa_cons (pe_int) (pa_cons (pe_int) (pa_cons (pe_int) (pa_cons (pe_int) (pa_nil))))))) (pe_call c_law_draw.ok (hr.mono (by decide)) (by rfl) c_law_draw.g c_law_draw.kp c_law_draw.b .nil pass0 (pa_cons (pv 0) (pa_cons (pe_int) (pa_nil)))) (fun _ _ => rfl))) (pss_cons (ps_set (i := 7) sc_law_web.nd rfl (Or.inl rfl) (pe_call c_law_draw.ok (hr.mono (by decide)) (by rfl) c_law_draw.g c_law_draw.kp c_law_draw.b .nil pass0 (pa_cons (pv 0) (pa_cons (pe_int) (pa_nil))))) (pss_cons (ps_set (i := 8) sc_law_web.nd rfl (Or.inl rfl) (pe_lst (pa_cons (pe_str) (pa_cons (pe_str) (pa_cons (pe_str) (pa_nil)))))) (pss_cons (ps_if (pt_cmpR (op_eq) (pe_call c_law_draw.ok (hr.mono (by decide)) (by rfl) c_law_draw.g c_law_draw.kp c_law_draw.b .nil pass0 (pa_cons (pv 0) (pa_cons (pe_int) (pa_nil)))) (pe_int) (nomark _)) (pss_cons (ps_set (i := 8) sc_law_web.nd rfl (Or.inl rfl) (pe_lst (pa_cons (pe_str) (pa_cons (pe_str) (pa_cons (pe_str) (pa_cons (pe_str) (pa_cons (pe_str) (pa_cons (pe_str) (pa_nil))))))))) (pss_nil)) (pss_nil)) (pss_cons (ps_set (i := 9) sc_law_web.nd rfl (Or.inl rfl) (pe_lst (pa_nil))) (pss_cons (ps_for PassesOwn.never rfl (pi_range1 (by rfl) m_range (pa_cons (pv 3) (pa_nil))) (pg_name (i := 10) sc_law_web.nd rfl (Or.inl rfl)) (pss_cons (ps_set (i := 11) sc_law_web.nd rfl (Or.inl rfl) (pe_op op_mod (pe_op op_add (pv 5) (pe_call c_law_draw.ok (hr.mono (by decide)) (by rfl) c_law_draw.g c_law_draw.kp c_law_draw.b .nil pass0 (pa_cons (pv 0) (pa_cons (pv 4) (pa_nil))))) (pe_int))) (pss_cons (ps_set (i := 12) sc_law_web.nd rfl (Or.inl rfl) (pe_ix (zix_list (K := K) rfl) (pv 8) (pe_call c_law_draw.ok (hr.mono (by decide)) (by rfl) c_law_draw.g c_law_draw.kp c_law_draw.b .nil pass0 (pa_cons (pv 0) (pa_cons (pe_callB (zlen (K := K) rfl) (by rfl) m_len (by decide +kernel) (pa_cons (pv 8) (pa_nil))) (pa_nil)))) (fun _ _ => rfl))) (pss_cons (ps_expr (pe_bm PySem.F.plainAttrs_list PySem.F.slot_list_append PySem.F.type_list_append mt_append (pv 9) (pa_cons (pe_tup (pa_cons (pv 11) (pa_cons (pv 12) (pa_cons (pe_op op_mod (pe_op op_add (pv 7) (pe_call c_law_draw.ok (hr.mono (by decide)) (by rfl) c_law_draw.g c_law_draw.kp c_law_draw.b .nil pass0 (pa_cons (pv 0) (pa_cons (pv 6) (pa_nil))))) (pe_int)) (pa_nil))))) (pa_nil)))) (pss_nil))))) (pss_cons (ps_ret (pv 9)) (pss_nil))))))))))), ?_⟩
    obtain rfl := d_int d_most_
    refine l_asg (fun v => [_, _, some v, _, _, _, _, _, _, _, _, _, _]) (fun _ => rfl) ?_
    refine y_call ?_
    refine y_cons ?_
    refine y_var rfl ?_
    refine y_cons ?_
    refine y_c ?_
    refine y_nil ?_
    refine ⟨amb, _, _, _, _, _, _, rfl, z, d_spring_, (Dq.int _), ?_⟩
    refine run_mono2 hw (fun t1 spring_ hw v g_spring_ H Ho e z d2 d_spring_ => ?_)
    replace d2 : Z.D K Ho v t1 := d2
    replace d_spring_ : OH K Ho v_spring_ spring_ g_spring_ := d_spring_
    have es4 := (Same.refl _).trans e
    first | obtain rfl := d_int d2 | cases d_int d2
    refine l_i hw (fun shape_ hw => ?_)
    refine l_asg (fun v => [_, _, _, some v, _, _, _, _, _, _, _, _, _]) (fun _ => rfl) ?_
    refine y_call ?_
    refine y_cons ?_
    refine y_var rfl ?_
    refine y_cons ?_
    refine y_op ?_
    refine k_lst ?_
    refine y_cons ?_
    refine y_c ?_
    refine y_cons ?_
    refine y_op ?_
    refine y_var rfl ?_
    refine y_c ?_
    refine y_i0 ?_
    refine y_nil ?_
    refine k_lstk (K := K) (xs := ([(31 : Int), (most_ + (1 : Int))] : (List Int))) z (DqAll.cons (Dq.int _) (DqAll.cons (Dq.int _) DqAll.nil)) (by show 2 ≤ sizeLine; decide) (fun H p5 ws6 z d7 => ?_)
    replace z : Zs ([(p5, HO.lst ws6)] ++ (g_spring_ ++ amb)) H Ho := z
    have o8 := OL.mk (p := p5) d7
    refine y_cb ?_
    refine y_cons ?_
    refine y_op ?_
    refine y_var rfl ?_
    refine y_c ?_
    refine y_eqi ?_
    refine y_nil ?_
    refine Or.inr ⟨_, rfl, ?_⟩
    refine y_ixL (OL.lv o8 mg0) z hw (fun t9 w d10 hw => ?_)
    first | obtain rfl := d_int d10 | cases d_int d10
    refine y_nil ?_
    replace z : Zs (g_spring_ ++ ([(p5, HO.lst ws6)] ++ amb)) _ _ := z.go [[(p5, HO.lst ws6)], g_spring_] amb [1, 0]
    refine ⟨([(p5, HO.lst ws6)] ++ amb), _, _, _, _, _, _, rfl, z, d_spring_, (Dq.int _), ?_⟩
    refine run_mono2 hw (fun t11 spring_ hw v g_spring_ H Ho e z d12 d_spring_ => ?_)
    replace d12 : Z.D K Ho v t11 := d12
    replace d_spring_ : OH K Ho v_spring_ spring_ g_spring_ := d_spring_
    have es14 := es4.trans e
    first | obtain rfl := d_int d12 | cases d_int d12
    refine l_i hw (fun size_ hw => ?_)
    replace z : Zs (g_spring_ ++ amb) _ _ := z.go [g_spring_, [(p5, HO.lst ws6)]] amb [0]
    refine l_asg (fun v => [_, _, _, _, some v, _, _, _, _, _, _, _, _]) (fun _ => rfl) ?_
    refine y_op ?_
    refine y_c ?_
    refine y_call ?_
    refine y_cons ?_
    refine y_var rfl ?_
    refine y_cons ?_
    refine y_c ?_
    refine y_nil ?_
    refine ⟨amb, _, _, _, _, _, _, rfl, z, d_spring_, (Dq.int _), ?_⟩
    refine run_mono2 hw (fun t15 spring_ hw v g_spring_ H Ho e z d16 d_spring_ => ?_)
    replace d16 : Z.D K Ho v t15 := d16
    replace d_spring_ : OH K Ho v_spring_ spring_ g_spring_ := d_spring_
    have es18 := es14.trans e
    first | obtain rfl := d_int d16 | cases d_int d16
    refine y_i0 ?_
    refine l_i hw (fun hands_ hw => ?_)
    refine l_asg (fun v => [_, _, _, _, _, some v, _, _, _, _, _, _, _]) (fun _ => rfl) ?_
    refine y_call ?_
    refine y_cons ?_
    refine y_var rfl ?_
    refine y_cons ?_
    refine y_c ?_
    refine y_nil ?_
    refine ⟨amb, _, _, _, _, _, _, rfl, z, d_spring_, (Dq.int _), ?_⟩
    refine run_mono2 hw (fun t19 spring_ hw v g_spring_ H Ho e z d20 d_spring_ => ?_)
    replace d20 : Z.D K Ho v t19 := d20
    replace d_spring_ : OH K Ho v_spring_ spring_ g_spring_ := d_spring_
    have es22 := es18.trans e
    first | obtain rfl := d_int d20 | cases d_int d20
    refine l_i hw (fun first_ hw => ?_)
    refine l_asg (fun v => [_, _, _, _, _, _, some v, _, _, _, _, _, _]) (fun _ => rfl) ?_
    refine y_op ?_
    refine k_lst ?_
    refine y_cons ?_
    refine y_c ?_
    refine y_cons ?_
    refine y_c ?_
    refine y_cons ?_
    refine y_c ?_
    refine y_cons ?_
    refine y_c ?_
    refine y_cons ?_
    refine y_c ?_
    refine y_nil ?_
    refine k_lstk (K := K) (xs := ([(1 : Int), (2 : Int), (3 : Int), (5 : Int), (20 : Int)] : (List Int))) z (DqAll.cons (Dq.int _) (DqAll.cons (Dq.int _) (DqAll.cons (Dq.int _) (DqAll.cons (Dq.int _) (DqAll.cons (Dq.int _) DqAll.nil))))) (by show 5 ≤ sizeLine; decide) (fun H p23 ws24 z d25 => ?_)
    replace z : Zs ([(p23, HO.lst ws24)] ++ (g_spring_ ++ amb)) H Ho := z
    have o26 := OL.mk (p := p23) d25
    refine y_call ?_
    refine y_cons ?_
    refine y_var rfl ?_
    refine y_cons ?_
    refine y_c ?_
    refine y_nil ?_
    replace z : Zs (g_spring_ ++ ([(p23, HO.lst ws24)] ++ amb)) _ _ := z.go [[(p23, HO.lst ws24)], g_spring_] amb [1, 0]
    refine ⟨([(p23, HO.lst ws24)] ++ amb), _, _, _, _, _, _, rfl, z, d_spring_, (Dq.int _), ?_⟩
    refine run_mono2 hw (fun t27 spring_ hw v g_spring_ H Ho e z d28 d_spring_ => ?_)
    replace d28 : Z.D K Ho v t27 := d28
    replace d_spring_ : OH K Ho v_spring_ spring_ g_spring_ := d_spring_
    replace o26 := OL.mo o26 e
    have es30 := es22.trans e
    first | obtain rfl := d_int d28 | cases d_int d28
    refine y_ixL (OL.lv o26 (mgS mg0)) z hw (fun t31 w d32 hw => ?_)
    first | obtain rfl := d_int d32 | cases d_int d32
    refine l_i hw (fun room_ hw => ?_)
    replace z : Zs (g_spring_ ++ amb) _ _ := z.go [g_spring_, [(p23, HO.lst ws24)]] amb [0]
    refine l_asg (fun v => [_, _, _, _, _, _, _, some v, _, _, _, _, _]) (fun _ => rfl) ?_
    refine y_call ?_
    refine y_cons ?_
    refine y_var rfl ?_
    refine y_cons ?_
    refine y_c ?_
    refine y_nil ?_
    refine ⟨amb, _, _, _, _, _, _, rfl, z, d_spring_, (Dq.int _), ?_⟩
    refine run_mono2 hw (fun t33 spring_ hw v g_spring_ H Ho e z d34 d_spring_ => ?_)
    replace d34 : Z.D K Ho v t33 := d34
    replace d_spring_ : OH K Ho v_spring_ spring_ g_spring_ := d_spring_
    have es36 := es30.trans e
    first | obtain rfl := d_int d34 | cases d_int d34
    refine l_i hw (fun base_ hw => ?_)
    refine l_asg (fun v => [_, _, _, _, _, _, _, _, some v, _, _, _, _]) (fun _ => rfl) ?_
    refine k_lst ?_
    refine y_cons ?_
    refine y_c ?_
    refine y_cons ?_
    refine y_c ?_
    refine y_cons ?_
    refine y_c ?_
    refine y_nil ?_
    refine k_lstk (K := K) (xs := ([("load" : Str), ("store" : Str), ("swap" : Str)] : (List Str))) z (DqAll.cons (Dq.str _) (DqAll.cons (Dq.str _) (DqAll.cons (Dq.str _) DqAll.nil))) (by show 3 ≤ sizeLine; decide) (fun H p37 ws38 z d39 => ?_)
    replace z : Zs ([(p37, HO.lst ws38)] ++ (g_spring_ ++ amb)) H Ho := z
    have o40 := OL.mk (p := p37) d39
    refine l_fr o40 z (fun Ho e z d41 => ?_)
    replace d_spring_ := OH.mo d_spring_ e
    have es42 := es36.trans e
    refine l_d (K := K) (Ho := Ho) hw d41 (fun kinds_ v_kinds_ d_kinds_ hw => ?_)
    refine y_ifS ?_
    refine y_test ?_
    refine y_op ?_
    refine y_call ?_
    refine y_cons ?_
    refine y_var rfl ?_
    refine y_cons ?_
    refine y_c ?_
    refine y_nil ?_
    refine ⟨amb, _, _, _, _, _, _, rfl, z, d_spring_, (Dq.int _), ?_⟩
    refine run_mono2 hw (fun t43 spring_ hw v g_spring_ H Ho e z d44 d_spring_ => ?_)
    replace d44 : Z.D K Ho v t43 := d44
    replace d_spring_ : OH K Ho v_spring_ spring_ g_spring_ := d_spring_
    replace d_kinds_ := D.mo d_kinds_ e
    have es46 := es42.trans e
    first | obtain rfl := d_int d44 | cases d_int d44
    refine y_c ?_
    refine y_eqi ?_
    refine ⟨_, rfl, ?_⟩
    refine w_ifJ hw (fun (s : (List Str)) (σ : L2.St) (H : Hp) => ∃ Ho2, Same Ho Ho2 ∧ (fun (s : (List Str)) (σ : L2.St) (H Ho : Hp) => ∃ (v_kinds_ : V), σ = [some v_spring_, some (V.int most_), some (V.int shape_), some (V.int size_), some (V.int hands_), some (V.int first_), some (V.int room_), some (V.int base_), some v_kinds_, none, none, none, none] ∧ Zs (g_spring_ ++ amb) H Ho ∧ Z.D K Ho v_kinds_ s) s σ H Ho2) (fun hb hw => ?_) (fun hb hw => ?_) ?_
    · refine l_asg (fun v => [_, _, _, _, _, _, _, _, some v, _, _, _, _]) (fun _ => rfl) ?_
      refine k_lst ?_
      refine y_cons ?_
      refine y_c ?_
      refine y_cons ?_
      refine y_c ?_
      refine y_cons ?_
      refine y_c ?_
      refine y_cons ?_
      refine y_c ?_
      refine y_cons ?_
      refine y_c ?_
      refine y_cons ?_
      refine y_c ?_
      refine y_nil ?_
      refine k_lstk (K := K) (xs := ([("load" : Str), ("load" : Str), ("load" : Str), ("load" : Str), ("store" : Str), ("swap" : Str)] : (List Str))) z (DqAll.cons (Dq.str _) (DqAll.cons (Dq.str _) (DqAll.cons (Dq.str _) (DqAll.cons (Dq.str _) (DqAll.cons (Dq.str _) (DqAll.cons (Dq.str _) DqAll.nil)))))) (by show 6 ≤ sizeLine; decide) (fun H p47 ws48 z d49 => ?_)
      replace z : Zs ([(p47, HO.lst ws48)] ++ (g_spring_ ++ amb)) H Ho := z
      have o50 := OL.mk (p := p47) d49
      refine l_fr o50 z (fun Ho e z d51 => ?_)
      replace d_kinds_ := D.mo d_kinds_ e
      replace d_spring_ := OH.mo d_spring_ e
      have es52 := (Same.refl _).trans e
      refine l_d (K := K) (Ho := Ho) hw d51 (fun kinds_ v_kinds_ d_kinds_ hw => ?_)
      exact (run_ret hw) _ _ ⟨_, es52, ⟨_, rfl, z, d_kinds_⟩⟩
    · refine y_nxS ?_
      exact (run_ret hw) _ _ ⟨_, (Same.refl _), ⟨_, rfl, z, d_kinds_⟩⟩
    rintro kinds_ σ H ⟨Ho, e, v_kinds_, rfl, z, d_kinds_⟩ hw
    replace d_spring_ := OH.mo d_spring_ e
    have es53 := es46.trans e
    refine l_asg (fun v => [_, _, _, _, _, _, _, _, _, some v, _, _, _]) (fun _ => rfl) ?_
    refine k_lst ?_
    refine y_nil ?_
    refine k_lstk (K := K) (xs := ([] : (List (P3 Int Str Int)))) z DqAll.nil (by show 0 ≤ sizeLine; decide) (fun H p54 ws55 z d56 => ?_)
    replace z : Zs ([(p54, HO.lst ws55)] ++ (g_spring_ ++ amb)) H Ho := z
    have o57 := OL.mk (p := p54) d56
    refine l_o hw z o57 (fun web_ v_web_ g_web_ z d_web_ hw => ?_)
    refine y_for ?_
    refine k_iR1 ?_
    refine y_cons ?_
    refine y_var rfl ?_
    refine y_nil ?_
    refine k_srcR1 (K := K) (Ho := Ho) hw.1 (fun J T => ?_)
    replace hw := (run_gd hw).2
    refine y_forL T hw (fun (s : (H3 Int Int Int) × (List (P3 Int Str Int))) (σ : L2.St) (H Ho : Hp) => ∃ (g_spring_ : Grp) (g_web_ : Grp) (y_at_ : Option V) (y_hand_ : Option V) (y_kind_ : Option V), σ = [some v_spring_, some (V.int most_), some (V.int shape_), some (V.int size_), some (V.int hands_), some (V.int first_), some (V.int room_), some (V.int base_), some v_kinds_, some v_web_, y_at_, y_hand_, y_kind_] ∧ Zs (g_web_ ++ (g_spring_ ++ amb)) H Ho ∧ OH K Ho v_spring_ s.1 g_spring_ ∧ OL K Ho v_web_ s.2 g_web_) ⟨_, _, _, _, _, rfl, z, d_spring_, d_web_⟩ ?_ ?_ ?_ ?_
    · intro s σ H Ho hI
      obtain ⟨spring_, web_⟩ := s
      obtain ⟨g_spring_, g_web_, y_at_, y_hand_, y_kind_, rfl, z, d_spring_, d_web_⟩ := hI
      exact ⟨_, z, mgN⟩
    · intro s σ H Ho H2 Ho2 hI e t
      obtain ⟨spring_, web_⟩ := s
      obtain ⟨g_spring_, g_web_, y_at_, y_hand_, y_kind_, rfl, z, d_spring_, d_web_⟩ := hI
      exact ⟨_, _, _, _, _, rfl, t _ z, OH.mo d_spring_ e, OL.mo d_web_ e⟩
    · intro at_ v_at_ s σ H Ho N e hI d_at_ hw
      obtain ⟨spring_, web_⟩ := s
      obtain ⟨g_spring_, g_web_, y_at_, y_hand_, y_kind_, rfl, z, d_spring_, d_web_⟩ := hI
      replace d_kinds_ := D.mo d_kinds_ e
      have es58 := es53.trans e
      obtain rfl := d_int d_at_
      refine y_gname (σ' := [some v_spring_, some (V.int most_), some (V.int shape_), some (V.int size_), some (V.int hands_), some (V.int first_), some (V.int room_), some (V.int base_), some v_kinds_, some v_web_, some (V.int at_), y_hand_, y_kind_]) rfl ?_
      refine l_asg (fun v => [_, _, _, _, _, _, _, _, _, _, _, some v, _]) (fun _ => rfl) ?_
      refine y_op ?_
      refine y_op ?_
      refine y_var rfl ?_
      refine y_call ?_
      refine y_cons ?_
      refine y_var rfl ?_
      refine y_cons ?_
      refine y_var rfl ?_
      refine y_nil ?_
      replace z : Zs (g_spring_ ++ (g_web_ ++ amb)) _ _ := z.go [g_web_, g_spring_] amb [1, 0]
      refine ⟨(g_web_ ++ amb), _, _, _, _, _, _, rfl, z, d_spring_, (Dq.int _), ?_⟩
      refine run_mono2 hw (fun t59 spring_ hw v g_spring_ H Ho e z d60 d_spring_ => ?_)
      replace d60 : Z.D K Ho v t59 := d60
      replace d_spring_ : OH K Ho v_spring_ spring_ g_spring_ := d_spring_
      replace d_kinds_ := D.mo d_kinds_ e
      replace d_web_ := OL.mo d_web_ e
      have es62 := (Same.refl _).trans e
      first | obtain rfl := d_int d60 | cases d_int d60
      refine y_i0 ?_
      refine y_c ?_
      refine y_ig (by decide) ?_
      refine l_i hw (fun hand_ hw => ?_)
      refine l_asg (fun v => [_, _, _, _, _, _, _, _, _, _, _, _, some v]) (fun _ => rfl) ?_
      refine y_op ?_
      refine y_var rfl ?_
      refine y_call ?_
      refine y_cons ?_
      refine y_var rfl ?_
      refine y_cons ?_
      refine y_cb ?_
      refine y_cons ?_
      refine y_var rfl ?_
      refine y_nil ?_
      refine y_len (LV.of d_kinds_) z ?_
      refine y_nil ?_
      refine ⟨(g_web_ ++ amb), _, _, _, _, _, _, rfl, z, d_spring_, (Dq.int _), ?_⟩
      refine run_mono2 hw (fun t63 spring_ hw v g_spring_ H Ho e z d64 d_spring_ => ?_)
      replace d64 : Z.D K Ho v t63 := d64
      replace d_spring_ : OH K Ho v_spring_ spring_ g_spring_ := d_spring_
      replace d_kinds_ := D.mo d_kinds_ e
      replace d_web_ := OL.mo d_web_ e
      have es66 := es62.trans e
      first | obtain rfl := d_int d64 | cases d_int d64
      refine y_ixL (LV.of d_kinds_) z hw (fun t67 w d68 hw => ?_)
      first | obtain rfl := d_str d68 | cases d_str d68
      refine l_s hw (fun kind_ hw => ?_)
      refine y_drop ?_
      refine y_bm ?_
      refine y_var rfl ?_
      refine g_tyL (OL.lv d_web_ (mgS mg0)) z ?_
      refine y_cons ?_
      refine k_tup ?_
      refine y_cons ?_
      refine y_var rfl ?_
      refine y_cons ?_
      refine y_var rfl ?_
      refine y_cons ?_
      refine y_op ?_
      refine y_op ?_
      refine y_var rfl ?_
      refine y_call ?_
      refine y_cons ?_
      refine y_var rfl ?_
      refine y_cons ?_
      refine y_var rfl ?_
      refine y_nil ?_
      refine ⟨(g_web_ ++ amb), _, _, _, _, _, _, rfl, z, d_spring_, (Dq.int _), ?_⟩
      refine run_mono2 hw (fun t69 spring_ hw v g_spring_ H Ho e z d70 d_spring_ => ?_)
      replace d70 : Z.D K Ho v t69 := d70
      replace d_spring_ : OH K Ho v_spring_ spring_ g_spring_ := d_spring_
      replace d_kinds_ := D.mo d_kinds_ e
      replace d_web_ := OL.mo d_web_ e
      have es72 := es66.trans e
      first | obtain rfl := d_int d70 | cases d_int d70
      refine y_i0 ?_
      refine y_c ?_
      refine y_ig (by decide) ?_
      refine y_nil ?_
      refine k_tupk (K := K) (x := (⟨hand_, kind_, ((base_ + t69) % (20 : Int))⟩ : (P3 Int Str Int))) z (by show 3 ≤ sizeLine; decide) _ rfl (DqAll.cons (Dq.int _) (DqAll.cons (Dq.str _) (DqAll.cons (Dq.int _) DqAll.nil))) (fun p H Ho e z d73 => ?_)
      replace d_kinds_ := D.mo d_kinds_ e
      replace d_spring_ := OH.mo d_spring_ e
      replace d_web_ := OL.mo d_web_ e
      have es74 := es72.trans e
      refine y_nil ?_
      replace z : Zs (g_web_ ++ (g_spring_ ++ amb)) _ _ := z.go [g_spring_, g_web_] amb [1, 0]
      refine g_app z d_web_ d73 hw (fun web_ g_web_ H z d_web_ hw => ?_)
      exact (run_ret hw) _ _ _ es74 ⟨_, _, _, _, _, rfl, z, d_spring_, d_web_⟩
    intro s σ H Ho e hI hw
    obtain ⟨spring_, web_⟩ := s
    obtain ⟨g_spring_, g_web_, y_at_, y_hand_, y_kind_, rfl, z, d_spring_, d_web_⟩ := hI
    have es75 := es53.trans e
    refine y_ret ?_
    refine y_var rfl ?_
    refine l_fr d_web_ z (fun Ho e z d_web_ => ?_)
    replace d_spring_ := OH.mo d_spring_ e
    have es76 := es75.trans e
    exact (run_ret hw) _ _ _ _ es76 z d_web_ d_spring_
def sp_law_calls (K : PySem.W.Frag) (cl : Nat → Addr) : Sp := fun vs H Q E => ∃ (amb : Grp) (Ho : Hp) (v0 : V) (x0 : (List (P3 Int Str Int))), vs = [v0] ∧ Zs amb H Ho ∧ LV K amb Ho v0 x0 ∧ (m_law_calls x0).run fun r => ∀ v H' Ho', Same Ho Ho' → Zs amb H' Ho' → Z.D K Ho' v r → Q v H'
abbrev s_law_calls : Stmt := topS 23
theorem sc_law_calls : FnScope ["web", "many", "found", "hand", "kind", "cell"] ["web"] (defScope s_law_calls) := ⟨rfl, rfl, rfl, by decide +kernel, rfl, by decide +kernel, by decide +kernel⟩
theorem ok_law_calls {f : Addr} {fd : FuncData} (F : Fun K "_law_calls" "_law_calls" s_law_calls f fd) :
    FnOk P w K mg base CX0 1 f fd ["web"] (sp_law_calls K cl) := by
  refine F.ok sc_law_calls (fun vs H Q E h => ?_) (fun cdv A outer s H vs Q E hr h => ?_)
  · obtain ⟨amb, Ho, v_web_, web_, rfl, _⟩ := h
    rfl
  · obtain ⟨amb, Ho, v_web_, web_, rfl, z, d_web_, hw⟩ := h
    refine ⟨_, pss_cons (ps_set (i := 1) sc_law_calls.nd rfl (Or.inl rfl) (pe_op op_rep (pe_lst (pa_cons (pe_int) (pa_nil))) (pe_int))) (pss_cons (ps_set (i := 2) sc_law_calls.nd rfl (Or.inl rfl) (pe_lst (pa_nil))) (pss_cons (ps_for PassesOwn.never rfl (zpi_list (K := K) rfl (pv 0)) (zpg_tup (K := K) (n := 3) rfl rfl (pgs_cons (pg_name (i := 3) sc_law_calls.nd rfl (Or.inl rfl)) (pgs_cons (pg_name (i := 4) sc_law_calls.nd rfl (Or.inl rfl)) (pgs_cons (pg_name (i := 5) sc_law_calls.nd rfl (Or.inl rfl)) (pgs_nil))))) (pss_cons (ps_expr (pe_bm PySem.F.plainAttrs_list PySem.F.slot_list_append PySem.F.type_list_append mt_append (pv 2) (pa_cons (pe_tup (pa_cons (pv 3) (pa_cons (pe_ix (zix_list (K := K) rfl) (pv 1) (pv 3) (fun _ _ => rfl)) (pa_nil)))) (pa_nil)))) (pss_cons (ps_asg (pe_op op_add (pe_ix (zix_list (K := K) rfl) (pv 1) (pv 3) (fun _ _ => rfl)) (pe_int)) (pg_sub (pv 1) (pv 3) set_list)) (pss_nil)))) (pss_cons (ps_ret (pv 2)) (pss_nil)))), ?_⟩
    refine l_asg (fun v => [_, some v, _, _, _, _]) (fun _ => rfl) ?_
    refine y_op ?_
    refine k_lst ?_
    refine y_cons ?_
    refine y_c ?_
    refine y_nil ?_
    refine k_lstk (K := K) (xs := ([(0 : Int)] : (List Int))) z (DqAll.cons (Dq.int _) DqAll.nil) (by show 1 ≤ sizeLine; decide) (fun H p1 ws2 z d3 => ?_)
    replace z : Zs ([(p1, HO.lst ws2)] ++ amb) H Ho := z
    have o4 := OL.mk (p := p1) d3
    refine y_c ?_
    refine y_rep z d3 hw.1 (fun H p5 ws6 z d7 => ?_)
    replace hw := (run_gd hw).2
    replace z : Zs ([(p5, HO.lst ws6)] ++ amb) H Ho := z
    have o8 := OL.mk (p := p5) d7
    refine l_o hw z o8 (fun many_ v_many_ g_many_ z d_many_ hw => ?_)
    refine l_asg (fun v => [_, _, some v, _, _, _]) (fun _ => rfl) ?_
    refine k_lst ?_
    refine y_nil ?_
    refine k_lstk (K := K) (xs := ([] : (List (Int × Int)))) z DqAll.nil (by show 0 ≤ sizeLine; decide) (fun H p9 ws10 z d11 => ?_)
    replace z : Zs ([(p9, HO.lst ws10)] ++ (g_many_ ++ amb)) H Ho := z
    have o12 := OL.mk (p := p9) d11
    refine l_o hw z o12 (fun found_ v_found_ g_found_ z d_found_ hw => ?_)
    refine y_for ?_
    refine k_iList ?_
    refine y_var rfl ?_
    refine k_srcL (r0 := amb) (LV.sub d_web_ mgE) (mgS (mgS mgE)) z (fun J T => ?_)
    refine y_forL T hw (fun (s : (List Int) × (List (Int × Int))) (σ : L2.St) (H Ho : Hp) => ∃ (g_many_ : Grp) (g_found_ : Grp) (y_hand_ : Option V) (y_kind_ : Option V) (y_cell_ : Option V), σ = [some v_web_, some v_many_, some v_found_, y_hand_, y_kind_, y_cell_] ∧ Zs (g_found_ ++ (g_many_ ++ amb)) H Ho ∧ OL K Ho v_many_ s.1 g_many_ ∧ OL K Ho v_found_ s.2 g_found_) ⟨_, _, _, _, _, rfl, z, d_many_, d_found_⟩ ?_ ?_ ?_ ?_
    · intro s σ H Ho hI
      obtain ⟨many_, found_⟩ := s
      obtain ⟨g_many_, g_found_, y_hand_, y_kind_, y_cell_, rfl, z, d_many_, d_found_⟩ := hI
      exact ⟨_, z, (mgS (mgS mgE))⟩
    · intro s σ H Ho H2 Ho2 hI e t
      obtain ⟨many_, found_⟩ := s
      obtain ⟨g_many_, g_found_, y_hand_, y_kind_, y_cell_, rfl, z, d_many_, d_found_⟩ := hI
      exact ⟨_, _, _, _, _, rfl, t _ z, OL.mo d_many_ e, OL.mo d_found_ e⟩
    · intro a x s σ H Ho N e hI dx hw
      obtain ⟨many_, found_⟩ := s
      obtain ⟨g_many_, g_found_, y_hand_, y_kind_, y_cell_, rfl, z, d_many_, d_found_⟩ := hI
      have es13 := (Same.refl _).trans e
      obtain ⟨hand_, kind_, cell_⟩ := a
      refine c_gt3 (fun v_hand_ v_kind_ v_cell_ => [some v_web_, some v_many_, some v_found_, some v_hand_, some v_kind_, some v_cell_]) (fun _ _ _ => rfl) dx z (fun v_hand_ v_kind_ v_cell_ d_hand_ d_kind_ d_cell_ => ?_)
      obtain rfl := d_int d_hand_
      obtain rfl := d_str d_kind_
      obtain rfl := d_int d_cell_
      refine y_drop ?_
      refine y_bm ?_
      refine y_var rfl ?_
      refine g_tyL (OL.lv d_found_ mg0) z ?_
      refine y_cons ?_
      refine k_tup ?_
      refine y_cons ?_
      refine y_var rfl ?_
      refine y_cons ?_
      refine y_op ?_
      refine y_var rfl ?_
      refine y_var rfl ?_
      refine y_ixL (OL.lv d_many_ (mgS mg0)) z hw (fun t14 w d15 hw => ?_)
      first | obtain rfl := d_int d15 | cases d_int d15
      refine y_nil ?_
      refine k_tupk (K := K) (x := (hand_, t14)) z (by show 2 ≤ sizeLine; decide) _ rfl (DqAll.cons (Dq.int _) (DqAll.cons (Dq.int _) DqAll.nil)) (fun p H Ho e z d16 => ?_)
      replace d_found_ := OL.mo d_found_ e
      replace d_many_ := OL.mo d_many_ e
      have es17 := (Same.refl _).trans e
      refine y_nil ?_
      refine g_app z d_found_ d16 hw (fun found_ g_found_ H z d_found_ hw => ?_)
      refine y_asgG ?_
      refine y_op ?_
      refine y_op ?_
      refine y_var rfl ?_
      refine y_var rfl ?_
      refine y_ixL (OL.lv d_many_ (mgS mg0)) z hw (fun t18 w d19 hw => ?_)
      first | obtain rfl := d_int d19 | cases d_int d19
      refine y_c ?_
      refine y_i0 ?_
      refine y_gsub ?_
      refine y_var rfl ?_
      refine y_var rfl ?_
      replace z : Zs (g_many_ ++ (g_found_ ++ amb)) _ _ := z.go [g_found_, g_many_] amb [1, 0]
      refine g_sti z d_many_ (Dq.int _) hw (fun many_ g_many_ H z d_many_ hw => ?_)
      replace z : Zs (g_found_ ++ (g_many_ ++ amb)) _ _ := z.go [g_many_, g_found_] amb [1, 0]
      exact (run_ret hw) _ _ _ es17 ⟨_, _, _, _, _, rfl, z, d_many_, d_found_⟩
    intro s σ H Ho e hI hw
    obtain ⟨many_, found_⟩ := s
    obtain ⟨g_many_, g_found_, y_hand_, y_kind_, y_cell_, rfl, z, d_many_, d_found_⟩ := hI
    have es20 := (Same.refl _).trans e
    refine y_ret ?_
    refine y_var rfl ?_
    refine l_fr d_found_ z (fun Ho e z d_found_ => ?_)
    replace d_many_ := OL.mo d_many_ e
    have es21 := es20.trans e
    replace z : Zs amb _ _ := z.go [g_many_] amb []
    exact (run_ret hw) _ _ _ es21 z d_found_
def sp_law_meets (K : PySem.W.Frag) (cl : Nat → Addr) : Sp := fun vs H Q E => ∃ (amb : Grp) (Ho : Hp) (v0 : V) (x0 : (P3 Int Str Int)) (v1 : V) (x1 : (P3 Int Str Int)), vs = [v0, v1] ∧ Zs amb H Ho ∧ Z.D K Ho v0 x0 ∧ Z.D K Ho v1 x1 ∧ (m_law_meets x0 x1).run fun r => ∀ v H' Ho', Same Ho Ho' → Zs amb H' Ho' → Z.D K Ho' v r → Q v H'
abbrev s_law_meets : Stmt := topS 24
theorem sc_law_meets : FnScope ["one", "other"] ["one", "other"] (defScope s_law_meets) := ⟨rfl, rfl, rfl, by decide +kernel, rfl, by decide +kernel, by decide +kernel⟩
theorem ok_law_meets {f : Addr} {fd : FuncData} (F : Fun K "_law_meets" "_law_meets" s_law_meets f fd) :
    FnOk P w K mg base CX0 1 f fd ["one", "other"] (sp_law_meets K cl) := by
  refine F.ok sc_law_meets (fun vs H Q E h => ?_) (fun cdv A outer s H vs Q E hr h => ?_)
  · obtain ⟨amb, Ho, v_one_, one_, v_other_, other_, rfl, _⟩ := h
    rfl
  · obtain ⟨amb, Ho, v_one_, one_, v_other_, other_, rfl, z, d_one_, d_other_, hw⟩ := h
    refine ⟨_, pss_cons (ps_if (PW.pt (pw_or (pt_cmpR (op_eq) (pe_ix (zix_tup (K := K) rfl) (pv 0) (pe_int) (fun _ _ => rfl)) (pe_ix (zix_tup (K := K) rfl) (pv 1) (pe_int) (fun _ _ => rfl)) (nomark _)) (pw_or1 (pt_cmpR (op_ne) (pe_ix (zix_tup (K := K) rfl) (pv 0) (pe_int) (fun _ _ => rfl)) (pe_ix (zix_tup (K := K) rfl) (pv 1) (pe_int) (fun _ _ => rfl)) (nomark _))))) (pss_cons (ps_ret (pe_bl)) (pss_nil)) (pss_nil)) (pss_cons (ps_ret (pe_or (pe_cmpR (op_ne) (pe_ix (zix_tup (K := K) rfl) (pv 0) (pe_int) (fun _ _ => rfl)) (pe_str) (nomark _)) (pe_one (pe_cmpR (op_ne) (pe_ix (zix_tup (K := K) rfl) (pv 1) (pe_int) (fun _ _ => rfl)) (pe_str) (nomark _))))) (pss_nil)), ?_⟩
    refine y_ifS ?_
    refine y_or ?_
    refine y_test ?_
    refine y_op ?_
    refine y_op ?_
    refine y_var rfl ?_
    refine y_c ?_
    refine y_ixT (y := one_.a) d_one_ z ⟨_, rfl, rfl⟩ (fun w d1 => ?_)
    first | obtain rfl := d_int d1 | cases d_int d1
    refine y_op ?_
    refine y_var rfl ?_
    refine y_c ?_
    refine y_ixT (y := other_.a) d_other_ z ⟨_, rfl, rfl⟩ (fun w d2 => ?_)
    first | obtain rfl := d_int d2 | cases d_int d2
    refine y_eqi ?_
    refine ⟨_, rfl, ?_⟩
    refine w_orP (a := (decide (one_.a = other_.a))) (!decide (one_.c = other_.c)) (fun hb hq => ?_) ?_
    · refine y_test ?_
      refine y_op ?_
      refine y_op ?_
      refine y_var rfl ?_
      refine y_c ?_
      refine y_ixT (y := one_.c) d_one_ z ⟨_, rfl, rfl⟩ (fun w d3 => ?_)
      first | obtain rfl := d_int d3 | cases d_int d3
      refine y_op ?_
      refine y_var rfl ?_
      refine y_c ?_
      refine y_ixT (y := other_.c) d_other_ z ⟨_, rfl, rfl⟩ (fun w d4 => ?_)
      first | obtain rfl := d_int d4 | cases d_int d4
      refine y_nei ?_
      refine ⟨_, rfl, ?_⟩
      exact hq
    refine y_cases hw (fun hb hw => ?_) (fun hb hw => ?_)
    · refine y_ret ?_
      refine y_c ?_
      exact (run_ret hw) _ _ _ (Same.refl _) z (Dq.bl _)
    · refine y_nxS ?_
      refine y_ret ?_
      refine y_orV ?_
      refine y_op ?_
      refine y_op ?_
      refine y_var rfl ?_
      refine y_c ?_
      refine y_ixT (y := one_.b) d_one_ z ⟨_, rfl, rfl⟩ (fun w d5 => ?_)
      first | obtain rfl := d_str d5 | cases d_str d5
      refine y_c ?_
      refine y_nes ?_
      refine ⟨_, rfl, ?_⟩
      refine w_orPV (a := (!decide (one_.b = ("load" : Str)))) (!decide (other_.b = ("load" : Str))) (fun hb hq => ?_) ?_
      · refine y_op ?_
        refine y_op ?_
        refine y_var rfl ?_
        refine y_c ?_
        refine y_ixT (y := other_.b) d_other_ z ⟨_, rfl, rfl⟩ (fun w d6 => ?_)
        first | obtain rfl := d_str d6 | cases d_str d6
        refine y_c ?_
        refine y_nes ?_
        exact hq
      exact (run_ret hw) _ _ _ (Same.refl _) z (Dq.bl _)
def sp_law_ends (K : PySem.W.Frag) (cl : Nat → Addr) : Sp := fun vs H Q E => ∃ (amb : Grp) (Ho : Hp) (v0 : V) (x0 : (List (Int × Int))) (v1 : V) (x1 : (P4 Int Int Int Int)), vs = [v0, v1] ∧ Zs amb H Ho ∧ LV K amb Ho v0 x0 ∧ Z.D K Ho v1 x1 ∧ (m_law_ends x0 x1).run fun r => ∀ v H' Ho', Same Ho Ho' → Zs amb H' Ho' → Z.D K Ho' v r → Q v H'
abbrev s_law_ends : Stmt := topS 25
theorem sc_law_ends : FnScope ["calls", "note", "one", "other"] ["calls", "note"] (defScope s_law_ends) := ⟨rfl, rfl, rfl, by decide +kernel, rfl, by decide +kernel, by decide +kernel⟩
theorem ok_law_ends {f : Addr} {fd : FuncData} (F : Fun K "_law_ends" "_law_ends" s_law_ends f fd) :
    FnOk P w K mg base CX0 1 f fd ["calls", "note"] (sp_law_ends K cl) := by
  refine F.ok sc_law_ends (fun vs H Q E h => ?_) (fun cdv A outer s H vs Q E hr h => ?_)
  · obtain ⟨amb, Ho, v_calls_, calls_, v_note_, note_, rfl, _⟩ := h
    rfl
  · obtain ⟨amb, Ho, v_calls_, calls_, v_note_, note_, rfl, z, d_calls_, d_note_, hw⟩ := h
    refine ⟨_, pss_cons (ps_set (i := 2) sc_law_ends.nd rfl (Or.inl rfl) (pe_tup (pa_cons (pe_ix (zix_tup (K := K) rfl) (pv 1) (pe_int) (fun _ _ => rfl)) (pa_cons (pe_ix (zix_tup (K := K) rfl) (pv 1) (pe_int) (fun _ _ => rfl)) (pa_nil))))) (pss_cons (ps_set (i := 3) sc_law_ends.nd rfl (Or.inl rfl) (pe_tup (pa_cons (pe_ix (zix_tup (K := K) rfl) (pv 1) (pe_int) (fun _ _ => rfl)) (pa_cons (pe_ix (zix_tup (K := K) rfl) (pv 1) (pe_int) (fun _ _ => rfl)) (pa_nil))))) (pss_cons (ps_if (PW.pt (pw_or (pt_cmpR (op_eq) (pe_ix (zix_tup (K := K) rfl) (pv 1) (pe_int) (fun _ _ => rfl)) (pe_ix (zix_tup (K := K) rfl) (pv 1) (pe_int) (fun _ _ => rfl)) (nomark _)) (pw_or (pt_cmpR (zop_notInD (K := K) rfl (room65 hr)) (pv 2) (pv 0) rfl) (pw_or1 (pt_cmpR (zop_notInD (K := K) rfl (room65 hr)) (pv 3) (pv 0) rfl))))) (pss_cons (ps_ret (pe_non)) (pss_nil)) (pss_nil)) (pss_cons (ps_if (pt_cmpR (op_ge) (pe_bm PySem.F.plainAttrs_list PySem.F.slot_list_index PySem.F.type_list_index (zmt_indexD (K := K) rfl (room65 hr)) (pv 0) (pa_cons (pv 2) (pa_nil))) (pe_bm PySem.F.plainAttrs_list PySem.F.slot_list_index PySem.F.type_list_index (zmt_indexD (K := K) rfl (room65 hr)) (pv 0) (pa_cons (pv 3) (pa_nil))) (nomark _)) (pss_cons (ps_ret (pe_non)) (pss_nil)) (pss_nil)) (pss_cons (ps_ret (pe_tup (pa_cons (pe_bm PySem.F.plainAttrs_list PySem.F.slot_list_index PySem.F.type_list_index (zmt_indexD (K := K) rfl (room65 hr)) (pv 0) (pa_cons (pv 2) (pa_nil))) (pa_cons (pe_bm PySem.F.plainAttrs_list PySem.F.slot_list_index PySem.F.type_list_index (zmt_indexD (K := K) rfl (room65 hr)) (pv 0) (pa_cons (pv 3) (pa_nil))) (pa_nil))))) (pss_nil))))), ?_⟩
    refine l_asg (fun v => [_, _, some v, _]) (fun _ => rfl) ?_
    refine k_tup ?_
    refine y_cons ?_
    refine y_op ?_
    refine y_var rfl ?_
    refine y_c ?_
    refine y_ixT (y := note_.a) d_note_ z ⟨_, rfl, rfl⟩ (fun w d1 => ?_)
    first | obtain rfl := d_int d1 | cases d_int d1
    refine y_cons ?_
    refine y_op ?_
    refine y_var rfl ?_
    refine y_c ?_
    refine y_ixT (y := note_.b) d_note_ z ⟨_, rfl, rfl⟩ (fun w d2 => ?_)
    first | obtain rfl := d_int d2 | cases d_int d2
    refine y_nil ?_
    refine k_tupk (K := K) (x := (note_.a, note_.b)) z (by show 2 ≤ sizeLine; decide) _ rfl (DqAll.cons (Dq.int _) (DqAll.cons (Dq.int _) DqAll.nil)) (fun p H Ho e z d3 => ?_)
    replace d_calls_ := LV.mo d_calls_ e
    replace d_note_ := D.mo d_note_ e
    have es4 := (Same.refl _).trans e
    refine l_d (K := K) (Ho := Ho) hw d3 (fun one_ v_one_ d_one_ hw => ?_)
    refine l_asg (fun v => [_, _, _, some v]) (fun _ => rfl) ?_
    refine k_tup ?_
    refine y_cons ?_
    refine y_op ?_
    refine y_var rfl ?_
    refine y_c ?_
    refine y_ixT (y := note_.c) d_note_ z ⟨_, rfl, rfl⟩ (fun w d5 => ?_)
    first | obtain rfl := d_int d5 | cases d_int d5
    refine y_cons ?_
    refine y_op ?_
    refine y_var rfl ?_
    refine y_c ?_
    refine y_ixT (y := note_.d) d_note_ z ⟨_, rfl, rfl⟩ (fun w d6 => ?_)
    first | obtain rfl := d_int d6 | cases d_int d6
    refine y_nil ?_
    refine k_tupk (K := K) (x := (note_.c, note_.d)) z (by show 2 ≤ sizeLine; decide) _ rfl (DqAll.cons (Dq.int _) (DqAll.cons (Dq.int _) DqAll.nil)) (fun p H Ho e z d7 => ?_)
    replace d_calls_ := LV.mo d_calls_ e
    replace d_note_ := D.mo d_note_ e
    replace d_one_ := D.mo d_one_ e
    have es8 := es4.trans e
    refine l_d (K := K) (Ho := Ho) hw d7 (fun other_ v_other_ d_other_ hw => ?_)
    refine y_ifS ?_
    refine y_or ?_
    refine y_test ?_
    refine y_op ?_
    refine y_op ?_
    refine y_var rfl ?_
    refine y_c ?_
    refine y_ixT (y := note_.a) d_note_ z ⟨_, rfl, rfl⟩ (fun w d9 => ?_)
    first | obtain rfl := d_int d9 | cases d_int d9
    refine y_op ?_
    refine y_var rfl ?_
    refine y_c ?_
    refine y_ixT (y := note_.c) d_note_ z ⟨_, rfl, rfl⟩ (fun w d10 => ?_)
    first | obtain rfl := d_int d10 | cases d_int d10
    refine y_eqi ?_
    refine ⟨_, rfl, ?_⟩
    refine w_orJ hw (fun (s : Bool) (v : Bool) (H2 : Hp) => ∃ (Ho2 : Hp), Same Ho Ho2 ∧ Zs amb H2 Ho2 ∧ v = s) (fun hb hw => ?_) (fun hb hw => ?_) ?_
    · exact (run_ret hw) _ _ ⟨_, (Same.refl _), z, rfl⟩
    · refine y_or ?_
      refine y_test ?_
      refine y_op ?_
      refine y_var rfl ?_
      refine y_var rfl ?_
      refine y_notInD (D.mo d_one_ z.le) (LV.dp (LV.sub d_calls_ mgE) z) hw.1 ?_
      replace hw := (run_gd hw).2
      refine ⟨_, rfl, ?_⟩
      refine w_orJ hw (fun (s : Bool) (v : Bool) (H2 : Hp) => ∃ (Ho2 : Hp), Same Ho Ho2 ∧ Zs amb H2 Ho2 ∧ v = s) (fun hb hw => ?_) (fun hb hw => ?_) ?_
      · exact (run_ret hw) _ _ ⟨_, (Same.refl _), z, rfl⟩
      · refine y_test ?_
        refine y_op ?_
        refine y_var rfl ?_
        refine y_var rfl ?_
        refine y_notInD (D.mo d_other_ z.le) (LV.dp (LV.sub d_calls_ mgE) z) hw.1 ?_
        replace hw := (run_gd hw).2
        refine ⟨_, rfl, ?_⟩
        exact (run_ret hw) _ _ ⟨_, (Same.refl _), z, rfl⟩
      rintro t11 v H ⟨Ho, e, z, rfl⟩ hw
      replace d_calls_ := LV.mo d_calls_ e
      replace d_one_ := D.mo d_one_ e
      replace d_other_ := D.mo d_other_ e
      have es14 := (Same.refl _).trans e
      exact (run_ret hw) _ _ ⟨_, es14, z, rfl⟩
    rintro t15 v H ⟨Ho, e, z, rfl⟩ hw
    replace d_calls_ := LV.mo d_calls_ e
    replace d_one_ := D.mo d_one_ e
    replace d_other_ := D.mo d_other_ e
    have es18 := es8.trans e
    refine y_cases hw (fun hb hw => ?_) (fun hb hw => ?_)
    · refine y_ret ?_
      refine y_c ?_
      exact (run_ret hw) _ _ _ es18 z (show Z.D K Ho V.non (none : (Option (Int × Int))) from Dq.non)
    · refine y_nxS ?_
      refine y_ifS ?_
      refine y_test ?_
      refine y_op ?_
      refine y_bm ?_
      refine y_var rfl ?_
      refine g_tyL (LV.sub d_calls_ mgE) z ?_
      refine y_cons ?_
      refine y_var rfl ?_
      refine y_nil ?_
      refine y_index (D.mo d_one_ z.le) (LV.dp (LV.sub d_calls_ mgE) z) hw.1 (run_gd hw).2 (fun t19 hw => ?_)
      refine y_bm ?_
      refine y_var rfl ?_
      refine g_tyL (LV.sub d_calls_ mgE) z ?_
      refine y_cons ?_
      refine y_var rfl ?_
      refine y_nil ?_
      refine y_index (D.mo d_other_ z.le) (LV.dp (LV.sub d_calls_ mgE) z) hw.1 (run_gd hw).2 (fun t20 hw => ?_)
      refine y_i0 ?_
      refine ⟨_, rfl, ?_⟩
      refine y_cases hw (fun hb hw => ?_) (fun hb hw => ?_)
      · refine y_ret ?_
        refine y_c ?_
        exact (run_ret hw) _ _ _ es18 z (show Z.D K Ho V.non (none : (Option (Int × Int))) from Dq.non)
      · refine y_nxS ?_
        refine y_ret ?_
        refine k_tup ?_
        refine y_cons ?_
        refine y_bm ?_
        refine y_var rfl ?_
        refine g_tyL (LV.sub d_calls_ mgE) z ?_
        refine y_cons ?_
        refine y_var rfl ?_
        refine y_nil ?_
        refine y_index (D.mo d_one_ z.le) (LV.dp (LV.sub d_calls_ mgE) z) hw.1 (run_gd hw).2 (fun t21 hw => ?_)
        refine y_cons ?_
        refine y_bm ?_
        refine y_var rfl ?_
        refine g_tyL (LV.sub d_calls_ mgE) z ?_
        refine y_cons ?_
        refine y_var rfl ?_
        refine y_nil ?_
        refine y_index (D.mo d_other_ z.le) (LV.dp (LV.sub d_calls_ mgE) z) hw.1 (run_gd hw).2 (fun t22 hw => ?_)
        refine y_nil ?_
        refine k_tupk (K := K) (x := (t21, t22)) z (by show 2 ≤ sizeLine; decide) _ rfl (DqAll.cons (Dq.int _) (DqAll.cons (Dq.int _) DqAll.nil)) (fun p H Ho e z d23 => ?_)
        replace d_calls_ := LV.mo d_calls_ e
        replace d_one_ := D.mo d_one_ e
        replace d_other_ := D.mo d_other_ e
        have es24 := es18.trans e
        exact (run_ret hw) _ _ _ es24 z (show Z.D K Ho _ (some (t21, t22)) from d23)
def sp_law_is_want (K : PySem.W.Frag) (cl : Nat → Addr) : Sp := fun vs H Q E => ∃ (amb : Grp) (Ho : Hp) (v0 : V) (x0 : (List (P3 Int Str Int))) (v1 : V) (x1 : (List (Int × Int))) (v2 : V) (x2 : (P4 Int Int Int Int)), vs = [v0, v1, v2] ∧ Zs amb H Ho ∧ LV K amb Ho v0 x0 ∧ LV K amb Ho v1 x1 ∧ Z.D K Ho v2 x2 ∧ (m_law_is_want x0 x1 x2).run fun r => ∀ v H' Ho', Same Ho Ho' → Zs amb H' Ho' → Z.D K Ho' v r → Q v H'
abbrev s_law_is_want : Stmt := topS 26
theorem sc_law_is_want : FnScope ["web", "calls", "note", "ends"] ["web", "calls", "note"] (defScope s_law_is_want) := ⟨rfl, rfl, rfl, by decide +kernel, rfl, by decide +kernel, by decide +kernel⟩
theorem ok_law_is_want {f : Addr} {fd : FuncData} (F : Fun K "_law_is_want" "_law_is_want" s_law_is_want f fd) {f_law_ends : Addr} {fd_law_ends : FuncData} (c_law_ends : Cal P w K mg base CX0 "_law_ends" ["calls", "note"] 1 (sp_law_ends K cl) f_law_ends fd_law_ends) {f_law_meets : Addr} {fd_law_meets : FuncData} (c_law_meets : Cal P w K mg base CX0 "_law_meets" ["one", "other"] 1 (sp_law_meets K cl) f_law_meets fd_law_meets) :
    FnOk P w K mg base CX0 2 f fd ["web", "calls", "note"] (sp_law_is_want K cl) := by
  refine F.ok sc_law_is_want (fun vs H Q E h => ?_) (fun cdv A outer s H vs Q E hr h => ?_)
  · obtain ⟨amb, Ho, v_web_, web_, v_calls_, calls_, v_note_, note_, rfl, _⟩ := h
    rfl
  · obtain ⟨amb, Ho, v_web_, web_, v_calls_, calls_, v_note_, note_, rfl, z, d_web_, d_calls_, d_note_, hw⟩ := h
    refine ⟨_, pss_cons (ps_set (i := 3) sc_law_is_want.nd rfl (Or.inl rfl) (pe_call c_law_ends.ok (hr.mono (by decide)) (by rfl) c_law_ends.g c_law_ends.kp c_law_ends.b .nil pass0 (pa_cons (pv 1) (pa_cons (pv 2) (pa_nil))))) (pss_cons (ps_ret (pe_and (pe_cmpR (op_notN) (pv 3) (pe_non) (nomark _)) (pe_one (pe_call c_law_meets.ok (hr.mono (by decide)) (by rfl) c_law_meets.g c_law_meets.kp c_law_meets.b .nil pass0 (pa_cons (pe_ix (zix_list (K := K) rfl) (pv 0) (pe_ix (zix_tup (K := K) rfl) (pv 3) (pe_int) (fun _ _ => rfl)) (fun _ _ => rfl)) (pa_cons (pe_ix (zix_list (K := K) rfl) (pv 0) (pe_ix (zix_tup (K := K) rfl) (pv 3) (pe_int) (fun _ _ => rfl)) (fun _ _ => rfl)) (pa_nil))))))) (pss_nil)), ?_⟩
    refine l_asg (fun v => [_, _, _, some v]) (fun _ => rfl) ?_
    refine y_call ?_
    refine y_cons ?_
    refine y_var rfl ?_
    refine y_cons ?_
    refine y_var rfl ?_
    refine y_nil ?_
    refine ⟨amb, _, _, _, _, _, rfl, z, (LV.sub d_calls_ mgE), d_note_, ?_⟩
    refine run_mono3 hw (fun t1 hw v H Ho e z d2 => ?_)
    replace d_calls_ := LV.mo d_calls_ e
    replace d_note_ := D.mo d_note_ e
    replace d_web_ := LV.mo d_web_ e
    have es4 := (Same.refl _).trans e
    refine l_d (K := K) (Ho := Ho) hw d2 (fun ends_ v_ends_ d_ends_ hw => ?_)
    refine y_ret ?_
    refine y_andV ?_
    refine y_op ?_
    refine y_var rfl ?_
    refine y_c ?_
    refine ⟨rfl, ?_⟩
    rw [dec_non d_ends_ hw.1, not_isNone]
    replace hw := (run_gd hw).2
    refine ⟨_, rfl, ?_⟩
    refine w_andVJ hw (fun (s : Bool) (v : V) (H2 : Hp) => ∃ (Ho2 : Hp), Same Ho Ho2 ∧ Zs amb H2 Ho2 ∧ v = V.bl s) (fun hb hw => ?_) (fun hb hw => ?_) ?_
    · refine y_call ?_
      refine y_cons ?_
      refine y_op ?_
      refine y_var rfl ?_
      refine y_op ?_
      refine y_var rfl ?_
      refine y_get d_ends_ hw (fun t5 d6 hw => ?_)
      refine y_c ?_
      refine y_ixT (y := t5.1) d6 z ⟨_, rfl, rfl⟩ (fun w d7 => ?_)
      first | obtain rfl := d_int d7 | cases d_int d7
      refine y_ixL (LV.sub d_web_ mgE) z hw (fun t8 w d9 hw => ?_)
      refine y_cons ?_
      refine y_op ?_
      refine y_var rfl ?_
      refine y_op ?_
      refine y_var rfl ?_
      refine y_get d_ends_ hw (fun t10 d11 hw => ?_)
      refine y_c ?_
      refine y_ixT (y := t10.2) d11 z ⟨_, rfl, rfl⟩ (fun w d12 => ?_)
      first | obtain rfl := d_int d12 | cases d_int d12
      refine y_ixL (LV.sub d_web_ mgE) z hw (fun t13 w d14 hw => ?_)
      refine y_nil ?_
      refine ⟨amb, _, _, _, _, _, rfl, z, d9, d14, ?_⟩
      refine run_mono3 hw (fun t15 hw v H Ho e z d16 => ?_)
      replace d_ends_ := D.mo d_ends_ e
      replace d_web_ := LV.mo d_web_ e
      have es18 := (Same.refl _).trans e
      first | obtain rfl := d_bool d16 | cases d_bool d16
      exact (run_ret hw) _ _ ⟨_, es18, z, rfl⟩
    · exact (run_ret hw) _ _ ⟨_, (Same.refl _), z, rfl⟩
    rintro t19 v H ⟨Ho, e, z, rfl⟩ hw
    replace d_ends_ := D.mo d_ends_ e
    replace d_web_ := LV.mo d_web_ e
    have es22 := es4.trans e
    exact (run_ret hw) _ _ _ es22 z (Dq.bl _)
def sp_law_all_met (K : PySem.W.Frag) (cl : Nat → Addr) : Sp := fun vs H Q E => ∃ (amb : Grp) (Ho : Hp) (v0 : V) (x0 : (List (P3 Int Str Int))) (v1 : V) (x1 : (List (Int × Int))) (v2 : V) (x2 : (List (P4 Int Int Int Int))), vs = [v0, v1, v2] ∧ Zs amb H Ho ∧ LV K amb Ho v0 x0 ∧ LV K amb Ho v1 x1 ∧ LV K amb Ho v2 x2 ∧ (m_law_all_met x0 x1 x2).run fun r => ∀ v H' Ho', Same Ho Ho' → Zs amb H' Ho' → Z.D K Ho' v r → Q v H'
abbrev s_law_all_met : Stmt := topS 27
theorem sc_law_all_met : FnScope ["web", "calls", "told", "ends", "note", "j", "to", "one", "i"] ["web", "calls", "told"] (defScope s_law_all_met) := ⟨rfl, rfl, rfl, by decide +kernel, rfl, by decide +kernel, by decide +kernel⟩
theorem ok_law_all_met {f : Addr} {fd : FuncData} (F : Fun K "_law_all_met" "_law_all_met" s_law_all_met f fd) {f_law_ends : Addr} {fd_law_ends : FuncData} (c_law_ends : Cal P w K mg base CX0 "_law_ends" ["calls", "note"] 1 (sp_law_ends K cl) f_law_ends fd_law_ends) {f_law_meets : Addr} {fd_law_meets : FuncData} (c_law_meets : Cal P w K mg base CX0 "_law_meets" ["one", "other"] 1 (sp_law_meets K cl) f_law_meets fd_law_meets) (m_len : mg "len" = none) (m_range : mg "range" = none) :
    FnOk P w K mg base CX0 2 f fd ["web", "calls", "told"] (sp_law_all_met K cl) := by
  refine F.ok sc_law_all_met (fun vs H Q E h => ?_) (fun cdv A outer s H vs Q E hr h => ?_)
  · obtain ⟨amb, Ho, v_web_, web_, v_calls_, calls_, v_told_, told_, rfl, _⟩ := h
    rfl
  · obtain ⟨amb, Ho, v_web_, web_, v_calls_, calls_, v_told_, told_, rfl, z, d_web_, d_calls_, d_told_, hw⟩ := h
    refine ⟨_, pss_cons (ps_setLc (i := 3) (own := [("note", 4)]) rfl sc_law_all_met.nd rfl rfl (sw_true rfl rfl rfl (by decide +kernel)) (zpi_list (K := K) rfl (pv 2)) (blkOk_by (N := ["web", "calls", "told", "ends", "note", "j", "to", "one", "i"]) (sc := defScope s_law_all_met) (by decide +kernel)) (fun _ _ _ _ _ => pg_name (i := 4) sc_law_all_met.nd rfl (Or.inl rfl)) (fun _ _ _ _ _ => pts_nil) (fun _ _ _ _ _ => pe_call c_law_ends.ok (hr.mono (by decide)) (by rfl) c_law_ends.g c_law_ends.kp c_law_ends.b .nil pass0 (pa_cons (pv 1) (pa_cons (pv 4) (pa_nil))))) (pss_cons (ps_for PassesOwn.never rfl (pi_range1 (by rfl) m_range (pa_cons (pe_callB (zlen (K := K) rfl) (by rfl) m_len (by decide +kernel) (pa_cons (pv 0) (pa_nil))) (pa_nil))) (pg_name (i := 5) sc_law_all_met.nd rfl (Or.inr rfl)) (pss_cons (ps_setLc (i := 6) (own := [("one", 7)]) rfl sc_law_all_met.nd rfl rfl (sw_true rfl rfl rfl (by decide +kernel)) (zpi_list (K := K) rfl (pv 3)) (blkOk_by (N := ["web", "calls", "told", "ends", "note", "j", "to", "one", "i"]) (sc := defScope s_law_all_met) (by decide +kernel)) (fun _ _ _ _ _ => pg_name (i := 7) sc_law_all_met.nd rfl (Or.inl rfl)) (fun _ _ _ _ _ => pts_one (PW.pt (pw_and (pt_cmpR (op_le) (pe_ix (zix_tup (K := K) rfl) (pv 7) (pe_int) (fun _ _ => rfl)) (pv 5) (nomark _)) (pw_and1 (pt_cmpR (op_eq) (pe_ix (zix_tup (K := K) rfl) (pe_ix (zix_list (K := K) rfl) (pv 0) (pe_ix (zix_tup (K := K) rfl) (pv 7) (pe_int) (fun _ _ => rfl)) (fun _ _ => rfl)) (pe_int) (fun _ _ => rfl)) (pe_ix (zix_tup (K := K) rfl) (pe_ix (zix_list (K := K) rfl) (pv 0) (pv 5) (fun _ _ => rfl)) (pe_int) (fun _ _ => rfl)) (nomark _)))))) (fun _ _ _ _ _ => pv 7)) (pss_cons (ps_for PassesOwn.never rfl (pi_range1 (by rfl) m_range (pa_cons (pv 5) (pa_nil))) (pg_name (i := 8) sc_law_all_met.nd rfl (Or.inr rfl)) (pss_cons (ps_if (pt_val (pe_call c_law_meets.ok (hr.mono (by decide)) (by rfl) c_law_meets.g c_law_meets.kp c_law_meets.b .nil pass0 (pa_cons (pe_ix (zix_list (K := K) rfl) (pv 0) (pv 8) (fun _ _ => rfl)) (pa_cons (pe_ix (zix_list (K := K) rfl) (pv 0) (pv 5) (fun _ _ => rfl)) (pa_nil))))) (pss_cons (ps_if (pt_cmpR (zop_eqD (K := K) rfl hr.units) (pe_lc (own := [("one", 7)]) rfl sc_law_all_met.nd (zpi_list (K := K) rfl (pv 6)) (blkOk_by (N := ["web", "calls", "told", "ends", "note", "j", "to", "one", "i"]) (sc := defScope s_law_all_met) (by decide +kernel)) (fun _ _ _ _ _ => pg_name (i := 7) sc_law_all_met.nd rfl (Or.inl rfl)) (fun _ _ _ _ _ => pts_one (PW.pt (pw_and (pt_cmpR (op_ge) (pe_ix (zix_tup (K := K) rfl) (pv 7) (pe_int) (fun _ _ => rfl)) (pv 8) (nomark _)) (pw_and1 (pt_cmpR (op_eq) (pe_ix (zix_tup (K := K) rfl) (pe_ix (zix_list (K := K) rfl) (pv 0) (pe_ix (zix_tup (K := K) rfl) (pv 7) (pe_int) (fun _ _ => rfl)) (fun _ _ => rfl)) (pe_int) (fun _ _ => rfl)) (pe_ix (zix_tup (K := K) rfl) (pe_ix (zix_list (K := K) rfl) (pv 0) (pv 8) (fun _ _ => rfl)) (pe_int) (fun _ _ => rfl)) (nomark _)))))) (fun _ _ _ _ _ => pv 7)) (pe_lst (pa_nil)) (nomark _)) (pss_cons (ps_ret (pe_bl)) (pss_nil)) (pss_nil)) (pss_nil)) (pss_nil)) (pss_nil))) (pss_nil)))) (pss_cons (ps_ret (pe_bl)) (pss_nil))), ?_⟩
    refine l_asg (fun v => [_, _, _, some v, _, _, _, _, _]) (fun _ => rfl) ?_
    refine y_lc ?_
    refine k_iList ?_
    refine y_var rfl ?_
    refine k_srcL (r0 := amb) (LV.sub d_told_ mgE) mgE z (fun J T => ?_)
    refine y_lcG z mgE T hw (fun r1 note_ v_note_ H Ho N N' e z d_note_ hw => ?_) (fun t10 H Ho e hw p7 ws8 z d9 => ?_)
    · replace z : Zs ([r1] ++ amb) H Ho := z
      replace d_calls_ := LV.mo d_calls_ e
      replace d_told_ := LV.mo d_told_ e
      replace d_web_ := LV.mo d_web_ e
      have es2 := (Same.refl _).trans e
      refine y_gname (σ' := [some v_web_, some v_calls_, some v_told_, none, some v_note_, none, none, none, none]) rfl ?_
      refine ⟨rfl, ?_⟩
      refine y_yes (w_t ?_)
      replace hw := run_itT (run_bret hw) rfl
      refine y_call ?_
      refine y_cons ?_
      refine y_var rfl ?_
      refine y_cons ?_
      refine y_var rfl ?_
      refine y_nil ?_
      refine ⟨([r1] ++ amb), _, _, _, _, _, rfl, z, (LV.sub d_calls_ (mgS mgE)), d_note_, ?_⟩
      refine run_mono3 hw (fun t3 hw v H Ho e z d4 => ?_)
      replace d_calls_ := LV.mo d_calls_ e
      replace d_note_ := D.mo d_note_ e
      replace d_told_ := LV.mo d_told_ e
      replace d_web_ := LV.mo d_web_ e
      have es6 := (Same.refl _).trans e
      exact (run_ret hw) _ _ _ es6 z d4
    replace d_calls_ := LV.mo d_calls_ e
    replace d_told_ := LV.mo d_told_ e
    replace d_web_ := LV.mo d_web_ e
    have es11 := (Same.refl _).trans e
    replace z : Zs ([(p7, HO.lst ws8)] ++ amb) H Ho := z
    have o12 := OL.mk (p := p7) d9
    refine l_fr o12 z (fun Ho e z d13 => ?_)
    replace d_web_ := LV.mo d_web_ e
    have es14 := es11.trans e
    refine l_d (K := K) (Ho := Ho) hw d13 (fun ends_ v_ends_ d_ends_ hw => ?_)
    refine y_for ?_
    refine k_iR1 ?_
    refine y_cons ?_
    refine y_cb ?_
    refine y_cons ?_
    refine y_var rfl ?_
    refine y_nil ?_
    refine y_len (LV.sub d_web_ mgE) z ?_
    refine y_nil ?_
    refine k_srcR1 (K := K) (Ho := Ho) hw.1 (fun J T => ?_)
    replace hw := (run_gd hw).2
    refine y_forC T hw (fun (s : Unit) (σ : L2.St) (H Ho : Hp) => ∃ (y_j_ : Option V) (y_to_ : Option V) (y_i_ : Option V), σ = [some v_web_, some v_calls_, some v_told_, some v_ends_, none, y_j_, y_to_, none, y_i_] ∧ Zs amb H Ho) ⟨_, _, _, rfl, z⟩ ?_ ?_ ?_ ?_
    · intro s σ H Ho hI
      obtain ⟨y_j_, y_to_, y_i_, rfl, z⟩ := hI
      exact ⟨_, z, mgN⟩
    · intro s σ H Ho H2 Ho2 hI e t
      obtain ⟨y_j_, y_to_, y_i_, rfl, z⟩ := hI
      exact ⟨_, _, _, rfl, t _ z⟩
    · intro j_ v_j_ s σ H Ho N B e hI d_j_ hw
      obtain ⟨y_j_, y_to_, y_i_, rfl, z⟩ := hI
      replace d_ends_ := D.mo d_ends_ e
      replace d_web_ := LV.mo d_web_ e
      have es15 := es14.trans e
      obtain rfl := d_int d_j_
      refine y_gname (σ' := [some v_web_, some v_calls_, some v_told_, some v_ends_, none, some (V.int j_), y_to_, none, y_i_]) rfl ?_
      refine l_asg (fun v => [_, _, _, _, _, _, some v, _, _]) (fun _ => rfl) ?_
      refine y_lc ?_
      refine k_iList ?_
      refine y_var rfl ?_
      refine k_srcL (r0 := ([] : Grp)) (LV.of d_ends_) mgN z (fun J T => ?_)
      refine y_lcG z mgN T hw (fun r16 one_ v_one_ H Ho N N' e z d_one_ hw => ?_) (fun t37 H Ho e hw p34 ws35 z d36 => ?_)
      · replace z : Zs ([r16] ++ amb) H Ho := z
        replace d_ends_ := D.mo d_ends_ e
        replace d_web_ := LV.mo d_web_ e
        have es17 := (Same.refl _).trans e
        refine y_gname (σ' := [some v_web_, some v_calls_, some v_told_, some v_ends_, none, some (V.int j_), y_to_, some v_one_, y_i_]) rfl ?_
        refine ⟨rfl, ?_⟩
        refine y_and ?_
        refine y_test ?_
        refine y_op ?_
        refine y_op ?_
        refine y_var rfl ?_
        refine y_get d_one_ hw (fun t18 d19 hw => ?_)
        refine y_c ?_
        refine y_ixT (y := t18.2) d19 z ⟨_, rfl, rfl⟩ (fun w d20 => ?_)
        first | obtain rfl := d_int d20 | cases d_int d20
        refine y_var rfl ?_
        refine y_i0 ?_
        refine ⟨_, rfl, ?_⟩
        refine w_andJ hw (fun (s : Bool) (v : Bool) (H2 : Hp) => ∃ (Ho2 : Hp), Same Ho Ho2 ∧ Zs ([r16] ++ amb) H2 Ho2 ∧ v = s) (fun hb hw => ?_) (fun hb hw => ?_) ?_
        · refine y_test ?_
          refine y_op ?_
          refine y_op ?_
          refine y_op ?_
          refine y_var rfl ?_
          refine y_op ?_
          refine y_var rfl ?_
          refine y_get d_one_ hw (fun t21 d22 hw => ?_)
          refine y_c ?_
          refine y_ixT (y := t21.2) d22 z ⟨_, rfl, rfl⟩ (fun w d23 => ?_)
          first | obtain rfl := d_int d23 | cases d_int d23
          refine y_ixL (LV.sub d_web_ (mgS mgE)) z hw (fun t24 w d25 hw => ?_)
          refine y_c ?_
          refine y_ixT (y := t24.a) d25 z ⟨_, rfl, rfl⟩ (fun w d26 => ?_)
          first | obtain rfl := d_int d26 | cases d_int d26
          refine y_op ?_
          refine y_op ?_
          refine y_var rfl ?_
          refine y_var rfl ?_
          refine y_ixL (LV.sub d_web_ (mgS mgE)) z hw (fun t27 w d28 hw => ?_)
          refine y_c ?_
          refine y_ixT (y := t27.a) d28 z ⟨_, rfl, rfl⟩ (fun w d29 => ?_)
          first | obtain rfl := d_int d29 | cases d_int d29
          refine y_eqi ?_
          refine ⟨_, rfl, ?_⟩
          exact (run_ret hw) _ _ ⟨_, (Same.refl _), z, rfl⟩
        · exact (run_ret hw) _ _ ⟨_, (Same.refl _), z, rfl⟩
        rintro t30 v H ⟨Ho, e, z, rfl⟩ hw
        replace d_ends_ := D.mo d_ends_ e
        replace d_one_ := D.mo d_one_ e
        replace d_web_ := LV.mo d_web_ e
        have es33 := (Same.refl _).trans e
        refine w_two (fun hb => ?_) (fun hb => ?_)
        · replace hw := run_itT (run_ret hw) hb
          refine y_var rfl ?_
          exact (run_ret hw) _ _ _ es33 z d_one_
        · exact run_itF (run_ret hw) hb _ _ es33 z
      replace d_ends_ := D.mo d_ends_ e
      replace d_web_ := LV.mo d_web_ e
      have es38 := (Same.refl _).trans e
      replace z : Zs ([(p34, HO.lst ws35)] ++ amb) H Ho := z
      have o39 := OL.mk (p := p34) d36
      refine l_fr o39 z (fun Ho e z d40 => ?_)
      replace d_ends_ := D.mo d_ends_ e
      replace d_web_ := LV.mo d_web_ e
      have es41 := es38.trans e
      refine l_d (K := K) (Ho := Ho) hw d40 (fun to_ v_to_ d_to_ hw => ?_)
      refine y_for ?_
      refine k_iR1 ?_
      refine y_cons ?_
      refine y_var rfl ?_
      refine y_nil ?_
      refine k_srcR1 (K := K) (Ho := Ho) hw.1 (fun J T => ?_)
      replace hw := (run_gd hw).2
      refine y_forC T hw (fun (s : Unit) (σ : L2.St) (H Ho : Hp) => ∃ (y_i_ : Option V), σ = [some v_web_, some v_calls_, some v_told_, some v_ends_, none, some (V.int j_), some v_to_, none, y_i_] ∧ Zs amb H Ho) ⟨_, rfl, z⟩ ?_ ?_ ?_ ?_
      · intro s σ H Ho hI
        obtain ⟨y_i_, rfl, z⟩ := hI
        exact ⟨_, z, mgN⟩
      · intro s σ H Ho H2 Ho2 hI e t
        obtain ⟨y_i_, rfl, z⟩ := hI
        exact ⟨_, rfl, t _ z⟩
      · intro i_ v_i_ s σ H Ho N B e hI d_i_ hw
        obtain ⟨y_i_, rfl, z⟩ := hI
        replace d_ends_ := D.mo d_ends_ e
        replace d_to_ := D.mo d_to_ e
        replace d_web_ := LV.mo d_web_ e
        have es42 := es41.trans e
        obtain rfl := d_int d_i_
        refine y_gname (σ' := [some v_web_, some v_calls_, some v_told_, some v_ends_, none, some (V.int j_), some v_to_, none, some (V.int i_)]) rfl ?_
        refine y_ifS ?_
        refine y_tB ?_
        refine y_call ?_
        refine y_cons ?_
        refine y_op ?_
        refine y_var rfl ?_
        refine y_var rfl ?_
        refine y_ixL (LV.sub d_web_ mgE) z hw (fun t43 w d44 hw => ?_)
        refine y_cons ?_
        refine y_op ?_
        refine y_var rfl ?_
        refine y_var rfl ?_
        refine y_ixL (LV.sub d_web_ mgE) z hw (fun t45 w d46 hw => ?_)
        refine y_nil ?_
        refine ⟨amb, _, _, _, _, _, rfl, z, d44, d46, ?_⟩
        refine run_mono3 hw (fun t47 hw v H Ho e z d48 => ?_)
        replace d_ends_ := D.mo d_ends_ e
        replace d_to_ := D.mo d_to_ e
        replace d_web_ := LV.mo d_web_ e
        have es50 := (Same.refl _).trans e
        first | obtain rfl := d_bool d48 | cases d_bool d48
        refine ⟨_, rfl, ?_⟩
        refine y_cases hw (fun hb hw => ?_) (fun hb hw => ?_)
        · refine y_ifS ?_
          refine y_test ?_
          refine y_op ?_
          refine y_lc ?_
          refine k_iList ?_
          refine y_var rfl ?_
          refine k_srcL (r0 := ([] : Grp)) (LV.of d_to_) mgN z (fun J T => ?_)
          refine y_lcG z mgN T hw (fun r51 one_ v_one_ H Ho N N' e z d_one_ hw => ?_) (fun t72 H Ho e hw p69 ws70 z d71 => ?_)
          · replace z : Zs ([r51] ++ amb) H Ho := z
            replace d_ends_ := D.mo d_ends_ e
            replace d_to_ := D.mo d_to_ e
            replace d_web_ := LV.mo d_web_ e
            have es52 := es50.trans e
            refine y_gname (σ' := [some v_web_, some v_calls_, some v_told_, some v_ends_, none, some (V.int j_), some v_to_, some v_one_, some (V.int i_)]) rfl ?_
            refine ⟨rfl, ?_⟩
            refine y_and ?_
            refine y_test ?_
            refine y_op ?_
            refine y_op ?_
            refine y_var rfl ?_
            refine y_get d_one_ hw (fun t53 d54 hw => ?_)
            refine y_c ?_
            refine y_ixT (y := t53.1) d54 z ⟨_, rfl, rfl⟩ (fun w d55 => ?_)
            first | obtain rfl := d_int d55 | cases d_int d55
            refine y_var rfl ?_
            refine y_i0 ?_
            refine ⟨_, rfl, ?_⟩
            refine w_andJ hw (fun (s : Bool) (v : Bool) (H2 : Hp) => ∃ (Ho2 : Hp), Same Ho Ho2 ∧ Zs ([r51] ++ amb) H2 Ho2 ∧ v = s) (fun hb hw => ?_) (fun hb hw => ?_) ?_
            · refine y_test ?_
              refine y_op ?_
              refine y_op ?_
              refine y_op ?_
              refine y_var rfl ?_
              refine y_op ?_
              refine y_var rfl ?_
              refine y_get d_one_ hw (fun t56 d57 hw => ?_)
              refine y_c ?_
              refine y_ixT (y := t56.1) d57 z ⟨_, rfl, rfl⟩ (fun w d58 => ?_)
              first | obtain rfl := d_int d58 | cases d_int d58
              refine y_ixL (LV.sub d_web_ (mgS mgE)) z hw (fun t59 w d60 hw => ?_)
              refine y_c ?_
              refine y_ixT (y := t59.a) d60 z ⟨_, rfl, rfl⟩ (fun w d61 => ?_)
              first | obtain rfl := d_int d61 | cases d_int d61
              refine y_op ?_
              refine y_op ?_
              refine y_var rfl ?_
              refine y_var rfl ?_
              refine y_ixL (LV.sub d_web_ (mgS mgE)) z hw (fun t62 w d63 hw => ?_)
              refine y_c ?_
              refine y_ixT (y := t62.a) d63 z ⟨_, rfl, rfl⟩ (fun w d64 => ?_)
              first | obtain rfl := d_int d64 | cases d_int d64
              refine y_eqi ?_
              refine ⟨_, rfl, ?_⟩
              exact (run_ret hw) _ _ ⟨_, (Same.refl _), z, rfl⟩
            · exact (run_ret hw) _ _ ⟨_, (Same.refl _), z, rfl⟩
            rintro t65 v H ⟨Ho, e, z, rfl⟩ hw
            replace d_ends_ := D.mo d_ends_ e
            replace d_one_ := D.mo d_one_ e
            replace d_to_ := D.mo d_to_ e
            replace d_web_ := LV.mo d_web_ e
            have es68 := (Same.refl _).trans e
            refine w_two (fun hb => ?_) (fun hb => ?_)
            · replace hw := run_itT (run_ret hw) hb
              refine y_var rfl ?_
              exact (run_ret hw) _ _ _ es68 z d_one_
            · exact run_itF (run_ret hw) hb _ _ es68 z
          replace d_ends_ := D.mo d_ends_ e
          replace d_to_ := D.mo d_to_ e
          replace d_web_ := LV.mo d_web_ e
          have es73 := es50.trans e
          replace z : Zs ([(p69, HO.lst ws70)] ++ amb) H Ho := z
          have o74 := OL.mk (p := p69) d71
          refine k_lst ?_
          refine y_nil ?_
          refine k_lstk (K := K) (xs := ([] : (List (Option (Int × Int))))) z DqAll.nil (by show 0 ≤ sizeLine; decide) (fun H p75 ws76 z d77 => ?_)
          replace z : Zs ([(p75, HO.lst ws76)] ++ ([(p69, HO.lst ws70)] ++ amb)) H Ho := z
          have o78 := OL.mk (p := p75) d77
          refine y_eqD (LV.dp (OL.lv o74 (mgS mg0)) z) (LV.dp (OL.lv o78 mg0) z) hw.1 ?_
          replace hw := (run_gd hw).2
          refine ⟨_, rfl, ?_⟩
          refine y_cases hw (fun hb hw => ?_) (fun hb hw => ?_)
          · replace z : Zs amb _ _ := z.go [[(p75, HO.lst ws76)], [(p69, HO.lst ws70)]] amb []
            refine y_ret ?_
            refine y_c ?_
            exact (ctl_rt (ctl_rt (run_ret hw))) _ _ _ ((es15.trans es42).trans es73) z (Dq.bl _)
          · refine y_nxS ?_
            refine y_nxS ?_
            replace z : Zs amb _ _ := z.go [[(p75, HO.lst ws76)], [(p69, HO.lst ws70)]] amb []
            exact ctl_nx (run_ret hw) _ _ _ es73 ⟨_, rfl, z⟩
        · refine y_nxS ?_
          exact ctl_nx (run_ret hw) _ _ _ es50 ⟨_, rfl, z⟩
      intro s σ H Ho e hI hw
      obtain ⟨y_i_, rfl, z⟩ := hI
      replace d_ends_ := D.mo d_ends_ e
      replace d_to_ := D.mo d_to_ e
      replace d_web_ := LV.mo d_web_ e
      have es79 := es41.trans e
      exact ctl_nx (run_ret hw) _ _ _ es79 ⟨_, _, _, rfl, z⟩
    intro s σ H Ho e hI hw
    obtain ⟨y_j_, y_to_, y_i_, rfl, z⟩ := hI
    have es80 := es14.trans e
    refine y_ret ?_
    refine y_c ?_
    exact (run_ret hw) _ _ _ es80 z (Dq.bl _)
def sp_law_counts (K : PySem.W.Frag) (cl : Nat → Addr) : Sp := fun vs H Q E => ∃ (amb : Grp) (Ho : Hp) (v0 : V) (x0 : (List (P4 Int Int Int Int))), vs = [v0] ∧ Zs amb H Ho ∧ LV K amb Ho v0 x0 ∧ (m_law_counts x0).run fun r => ∀ v g H' Ho', Same Ho Ho' → Zs (g ++ amb) H' Ho' → OD K Ho' v r g → Q v H'
abbrev s_law_counts : Stmt := topS 28
theorem sc_law_counts : FnScope ["some", "found", "note"] ["some"] (defScope s_law_counts) := ⟨rfl, rfl, rfl, by decide +kernel, rfl, by decide +kernel, by decide +kernel⟩
theorem ok_law_counts {f : Addr} {fd : FuncData} (F : Fun K "_law_counts" "_law_counts" s_law_counts f fd) :
    FnOk P w K mg base CX0 1 f fd ["some"] (sp_law_counts K cl) := by
  refine F.ok sc_law_counts (fun vs H Q E h => ?_) (fun cdv A outer s H vs Q E hr h => ?_)
  · obtain ⟨amb, Ho, v_some_, some_, rfl, _⟩ := h
    rfl
  · obtain ⟨amb, Ho, v_some_, some_, rfl, z, d_some_, hw⟩ := h
    refine ⟨_, pss_cons (ps_set (i := 1) sc_law_counts.nd rfl (Or.inl rfl) (pe_dnewT)) (pss_cons (ps_for PassesOwn.never rfl (zpi_list (K := K) rfl (pv 0)) (pg_name (i := 2) sc_law_counts.nd rfl (Or.inl rfl)) (pss_cons (ps_dput (room1 hr) (pv 1) (pe_tup (pa_cons (pe_ix (zix_tup (K := K) rfl) (pv 2) (pe_int) (fun _ _ => rfl)) (pa_cons (pe_ix (zix_tup (K := K) rfl) (pv 2) (pe_int) (fun _ _ => rfl)) (pa_nil)))) (pe_op op_add (pe_dget2 (room1 hr) (pv 1) (pe_tup (pa_cons (pe_ix (zix_tup (K := K) rfl) (pv 2) (pe_int) (fun _ _ => rfl)) (pa_cons (pe_ix (zix_tup (K := K) rfl) (pv 2) (pe_int) (fun _ _ => rfl)) (pa_nil)))) (pe_int) ⟨by rfl, by rfl, by rfl, by rfl⟩) (pe_int)) (by rfl)) (pss_nil))) (pss_cons (ps_ret (pv 1)) (pss_nil))), ?_⟩
    refine l_asg (fun v => [_, some v, _]) (fun _ => rfl) ?_
    refine g_dnewT (K := K) (α := Int) z (fun H v1 g2 z o3 => ?_)
    refine d_o hw z o3 (fun found_ v_found_ g_found_ z d_found_ hw => ?_)
    refine y_for ?_
    refine k_iList ?_
    refine y_var rfl ?_
    refine k_srcL (r0 := amb) (LV.sub d_some_ mgE) (mgS mgE) z (fun J T => ?_)
    refine y_forL T hw (fun (s : (Dc (Int × Int) Int)) (σ : L2.St) (H Ho : Hp) => ∃ (g_found_ : Grp) (y_note_ : Option V), σ = [some v_some_, some v_found_, y_note_] ∧ Zs (g_found_ ++ amb) H Ho ∧ OD K Ho v_found_ s g_found_) ⟨_, _, rfl, z, d_found_⟩ ?_ ?_ ?_ ?_
    · intro s σ H Ho hI
      obtain ⟨g_found_, y_note_, rfl, z, d_found_⟩ := hI
      exact ⟨_, z, (mgS mgE)⟩
    · intro s σ H Ho H2 Ho2 hI e t
      obtain ⟨g_found_, y_note_, rfl, z, d_found_⟩ := hI
      exact ⟨_, _, rfl, t _ z, OD.mo d_found_ e⟩
    · intro note_ v_note_ s σ H Ho N e hI d_note_ hw
      obtain ⟨found_, rfl⟩ : ∃ q, q = s := ⟨_, rfl⟩
      obtain ⟨g_found_, y_note_, rfl, z, d_found_⟩ := hI
      have es4 := (Same.refl _).trans e
      refine y_gname (σ' := [some v_some_, some v_found_, some v_note_]) rfl ?_
      refine y_dput ?_
      refine y_op ?_
      refine y_dget2 ?_
      refine y_var rfl ?_
      refine g_isd ⟨_, d_found_, mg0⟩ z (fun a5 ea5 => ?_)
      refine k_tup ?_
      refine y_cons ?_
      refine y_op ?_
      refine y_var rfl ?_
      refine y_c ?_
      refine y_ixT (y := note_.a) d_note_ z ⟨_, rfl, rfl⟩ (fun w d6 => ?_)
      first | obtain rfl := d_int d6 | cases d_int d6
      refine y_cons ?_
      refine y_op ?_
      refine y_var rfl ?_
      refine y_c ?_
      refine y_ixT (y := note_.c) d_note_ z ⟨_, rfl, rfl⟩ (fun w d7 => ?_)
      first | obtain rfl := d_int d7 | cases d_int d7
      refine y_nil ?_
      refine k_tupk (K := K) (x := (note_.a, note_.c)) z (by show 2 ≤ sizeLine; decide) _ rfl (DqAll.cons (Dq.int _) (DqAll.cons (Dq.int _) DqAll.nil)) (fun p H Ho e z d8 => ?_)
      replace d_found_ := OD.mo d_found_ e
      replace d_note_ := D.mo d_note_ e
      have es9 := (Same.refl _).trans e
      refine y_c ?_
      refine g_dget2 ea5 ⟨_, d_found_, mg0⟩ z d8 (Dq.int _) (fun w d10 => ?_)
      obtain rfl := d_int d10
      refine y_c ?_
      refine y_i0 ?_
      refine y_var rfl ?_
      refine k_tup ?_
      refine y_cons ?_
      refine y_op ?_
      refine y_var rfl ?_
      refine y_c ?_
      refine y_ixT (y := note_.a) d_note_ z ⟨_, rfl, rfl⟩ (fun w d11 => ?_)
      first | obtain rfl := d_int d11 | cases d_int d11
      refine y_cons ?_
      refine y_op ?_
      refine y_var rfl ?_
      refine y_c ?_
      refine y_ixT (y := note_.c) d_note_ z ⟨_, rfl, rfl⟩ (fun w d12 => ?_)
      first | obtain rfl := d_int d12 | cases d_int d12
      refine y_nil ?_
      refine k_tupk (K := K) (x := (note_.a, note_.c)) z (by show 2 ≤ sizeLine; decide) _ rfl (DqAll.cons (Dq.int _) (DqAll.cons (Dq.int _) DqAll.nil)) (fun p H Ho e z d13 => ?_)
      replace d_found_ := OD.mo d_found_ e
      replace d_note_ := D.mo d_note_ e
      have es14 := es9.trans e
      refine g_dput z d_found_ d13 (Dq.int _) hw (fun found_ g_found_ H z d_found_ hw => ?_)
      exact (run_ret hw) _ _ _ es14 ⟨_, _, rfl, z, d_found_⟩
    intro s σ H Ho e hI hw
    obtain ⟨found_, rfl⟩ : ∃ q, q = s := ⟨_, rfl⟩
    obtain ⟨g_found_, y_note_, rfl, z, d_found_⟩ := hI
    have es15 := (Same.refl _).trans e
    refine y_ret ?_
    refine y_var rfl ?_
    exact (run_ret hw) _ _ _ _ es15 z d_found_
def sp_law_fewer (K : PySem.W.Frag) (cl : Nat → Addr) : Sp := fun vs H Q E => ∃ (amb : Grp) (Ho : Hp) (v0 : V) (x0 : (H3 Int Int Int)) (g0 : Grp) (v1 : V) (x1 : (List (Int × Int))) (v2 : V) (x2 : (Int × Int)) (v3 : V) (x3 : Int), vs = [v0, v1, v2, v3] ∧ Zs (g0 ++ amb) H Ho ∧ OH K Ho v0 x0 g0 ∧ LV K amb Ho v1 x1 ∧ Z.D K Ho v2 x2 ∧ Z.D K Ho v3 x3 ∧ (m_law_fewer x0 x1 x2 x3).run fun r => ∀ v h0 H' Ho', Same Ho Ho' → Zs (h0 ++ amb) H' Ho' → Z.D K Ho' v r.1 → OH K Ho' v0 r.2 h0 → Q v H'
abbrev s_law_fewer : Stmt := topS 29
theorem sc_law_fewer : FnScope ["spring", "calls", "hands", "many", "ones", "at", "others", "found", "again", "one", "other"] ["spring", "calls", "hands", "many"] (defScope s_law_fewer) := ⟨rfl, rfl, rfl, by decide +kernel, rfl, by decide +kernel, by decide +kernel⟩
theorem ok_law_fewer {f : Addr} {fd : FuncData} (F : Fun K "_law_fewer" "_law_fewer" s_law_fewer f fd) {f_law_draw : Addr} {fd_law_draw : FuncData} (c_law_draw : Cal P w K mg base CX0 "_law_draw" ["spring", "many"] 1 (sp_law_draw K cl) f_law_draw fd_law_draw) (m_len : mg "len" = none) (m_range : mg "range" = none) :
    FnOk P w K mg base CX0 2 f fd ["spring", "calls", "hands", "many"] (sp_law_fewer K cl) := by
  refine F.ok sc_law_fewer (fun vs H Q E h => ?_) (fun cdv A outer s H vs Q E hr h => ?_)
  · obtain ⟨amb, Ho, v_spring_, spring_, g_spring_, v_calls_, calls_, v_hands_, hands_, v_many_, many_, rfl, _⟩ := h
    rfl
  · obtain ⟨amb, Ho, v_spring_, spring_, g_spring_, v_calls_, calls_, v_hands_, hands_, v_many_, many_, rfl, z, d_spring_, d_calls_, d_hands_, d_many_, hw⟩ := h
    refine ⟨_, pss_cons (ps_setLc (i := 4) (own := [("at", 5)]) rfl sc_law_fewer.nd rfl rfl (sw_true rfl rfl rfl (by decide +kernel)) (pi_range1 (by rfl) m_range (pa_cons (pe_callB (zlen (K := K) rfl) (by rfl) m_len (by decide +kernel) (pa_cons (pv 1) (pa_nil))) (pa_nil))) (blkOk_by (N := ["spring", "calls", "hands", "many", "ones", "at", "others", "found", "again", "one", "other"]) (sc := defScope s_law_fewer) (by decide +kernel)) (fun _ _ _ _ _ => pg_name (i := 5) sc_law_fewer.nd rfl (Or.inl rfl)) (fun _ _ _ _ _ => pts_one (pt_cmpR (op_eq) (pe_ix (zix_tup (K := K) rfl) (pe_ix (zix_list (K := K) rfl) (pv 1) (pv 5) (fun _ _ => rfl)) (pe_int) (fun _ _ => rfl)) (pe_ix (zix_tup (K := K) rfl) (pv 2) (pe_int) (fun _ _ => rfl)) (nomark _))) (fun _ _ _ _ _ => pv 5)) (pss_cons (ps_setLc (i := 6) (own := [("at", 5)]) rfl sc_law_fewer.nd rfl rfl (sw_true rfl rfl rfl (by decide +kernel)) (pi_range1 (by rfl) m_range (pa_cons (pe_callB (zlen (K := K) rfl) (by rfl) m_len (by decide +kernel) (pa_cons (pv 1) (pa_nil))) (pa_nil))) (blkOk_by (N := ["spring", "calls", "hands", "many", "ones", "at", "others", "found", "again", "one", "other"]) (sc := defScope s_law_fewer) (by decide +kernel)) (fun _ _ _ _ _ => pg_name (i := 5) sc_law_fewer.nd rfl (Or.inl rfl)) (fun _ _ _ _ _ => pts_one (pt_cmpR (op_eq) (pe_ix (zix_tup (K := K) rfl) (pe_ix (zix_list (K := K) rfl) (pv 1) (pv 5) (fun _ _ => rfl)) (pe_int) (fun _ _ => rfl)) (pe_ix (zix_tup (K := K) rfl) (pv 2) (pe_int) (fun _ _ => rfl)) (nomark _))) (fun _ _ _ _ _ => pv 5)) (pss_cons (ps_set (i := 7) sc_law_fewer.nd rfl (Or.inl rfl) (pe_lst (pa_nil))) (pss_cons (ps_for PassesOwn.never rfl (pi_range1 (by rfl) m_range (pa_cons (pv 3) (pa_nil))) (pg_name (i := 8) sc_law_fewer.nd rfl (Or.inl rfl)) (pss_cons (ps_set (i := 9) sc_law_fewer.nd rfl (Or.inl rfl) (pe_ix (zix_list (K := K) rfl) (pv 4) (pe_call c_law_draw.ok (hr.mono (by decide)) (by rfl) c_law_draw.g c_law_draw.kp c_law_draw.b .nil pass0 (pa_cons (pv 0) (pa_cons (pe_callB (zlen (K := K) rfl) (by rfl) m_len (by decide +kernel) (pa_cons (pv 4) (pa_nil))) (pa_nil)))) (fun _ _ => rfl))) (pss_cons (ps_set (i := 10) sc_law_fewer.nd rfl (Or.inl rfl) (pe_ix (zix_list (K := K) rfl) (pv 6) (pe_call c_law_draw.ok (hr.mono (by decide)) (by rfl) c_law_draw.g c_law_draw.kp c_law_draw.b .nil pass0 (pa_cons (pv 0) (pa_cons (pe_callB (zlen (K := K) rfl) (by rfl) m_len (by decide +kernel) (pa_cons (pv 6) (pa_nil))) (pa_nil)))) (fun _ _ => rfl))) (pss_cons (ps_if (pt_cmpR (op_lt) (pv 9) (pv 10) (nomark _)) (pss_cons (ps_expr (pe_bm PySem.F.plainAttrs_list PySem.F.slot_list_append PySem.F.type_list_append mt_append (pv 7) (pa_cons (pe_op (zop_catT (K := K) rfl) (pe_ix (zix_list (K := K) rfl) (pv 1) (pv 9) (fun _ _ => rfl)) (pe_ix (zix_list (K := K) rfl) (pv 1) (pv 10) (fun _ _ => rfl))) (pa_nil)))) (pss_nil)) (pss_nil)) (pss_nil))))) (pss_cons (ps_ret (pv 7)) (pss_nil))))), ?_⟩
    obtain rfl := d_int d_many_
    refine l_asg (fun v => [_, _, _, _, some v, _, _, _, _, _, _]) (fun _ => rfl) ?_
    refine y_lc ?_
    refine k_iR1 ?_
    refine y_cons ?_
    refine y_cb ?_
    refine y_cons ?_
    refine y_var rfl ?_
    refine y_nil ?_
    refine y_len (LV.sub d_calls_ (mgS mgE)) z ?_
    refine y_nil ?_
    refine k_srcR1 (K := K) (Ho := Ho) hw.1 (fun J T => ?_)
    replace hw := (run_gd hw).2
    refine y_lcG z mgN T hw (fun r1 at_ v_at_ H Ho N N' e z d_at_ hw => ?_) (fun t10 H Ho e hw p7 ws8 z d9 => ?_)
    · replace z : Zs ([r1] ++ (g_spring_ ++ amb)) H Ho := z
      replace d_calls_ := LV.mo d_calls_ e
      replace d_hands_ := D.mo d_hands_ e
      replace d_spring_ := OH.mo d_spring_ e
      have es2 := (Same.refl _).trans e
      obtain rfl := d_int d_at_
      refine y_gname (σ' := [some v_spring_, some v_calls_, some v_hands_, some (V.int many_), none, some (V.int at_), none, none, none, none, none]) rfl ?_
      refine ⟨rfl, ?_⟩
      refine y_test ?_
      refine y_op ?_
      refine y_op ?_
      refine y_op ?_
      refine y_var rfl ?_
      refine y_var rfl ?_
      refine y_ixL (LV.sub d_calls_ (mgS (mgS mgE))) z hw (fun t3 w d4 hw => ?_)
      refine y_c ?_
      refine y_ixT (y := t3.1) d4 z ⟨_, rfl, rfl⟩ (fun w d5 => ?_)
      first | obtain rfl := d_int d5 | cases d_int d5
      refine y_op ?_
      refine y_var rfl ?_
      refine y_c ?_
      refine y_ixT (y := hands_.1) d_hands_ z ⟨_, rfl, rfl⟩ (fun w d6 => ?_)
      first | obtain rfl := d_int d6 | cases d_int d6
      refine y_eqi ?_
      refine ⟨_, rfl, ?_⟩
      refine w_two (fun hb => ?_) (fun hb => ?_)
      · replace hw := run_itT (run_ret hw) hb
        refine y_var rfl ?_
        exact (run_ret hw) _ _ _ (Same.refl _) z (Dq.int _)
      · exact run_itF (run_ret hw) hb _ _ (Same.refl _) z
    replace d_calls_ := LV.mo d_calls_ e
    replace d_hands_ := D.mo d_hands_ e
    replace d_spring_ := OH.mo d_spring_ e
    have es11 := (Same.refl _).trans e
    replace z : Zs ([(p7, HO.lst ws8)] ++ (g_spring_ ++ amb)) H Ho := z
    have o12 := OL.mk (p := p7) d9
    refine l_fr o12 z (fun Ho e z d13 => ?_)
    replace d_calls_ := LV.mo d_calls_ e
    replace d_hands_ := D.mo d_hands_ e
    replace d_spring_ := OH.mo d_spring_ e
    have es14 := es11.trans e
    refine l_d (K := K) (Ho := Ho) hw d13 (fun ones_ v_ones_ d_ones_ hw => ?_)
    refine l_asg (fun v => [_, _, _, _, _, _, some v, _, _, _, _]) (fun _ => rfl) ?_
    refine y_lc ?_
    refine k_iR1 ?_
    refine y_cons ?_
    refine y_cb ?_
    refine y_cons ?_
    refine y_var rfl ?_
    refine y_nil ?_
    refine y_len (LV.sub d_calls_ (mgS mgE)) z ?_
    refine y_nil ?_
    refine k_srcR1 (K := K) (Ho := Ho) hw.1 (fun J T => ?_)
    replace hw := (run_gd hw).2
    refine y_lcG z mgN T hw (fun r15 at_ v_at_ H Ho N N' e z d_at_ hw => ?_) (fun t24 H Ho e hw p21 ws22 z d23 => ?_)
    · replace z : Zs ([r15] ++ (g_spring_ ++ amb)) H Ho := z
      replace d_calls_ := LV.mo d_calls_ e
      replace d_hands_ := D.mo d_hands_ e
      replace d_ones_ := D.mo d_ones_ e
      replace d_spring_ := OH.mo d_spring_ e
      have es16 := es14.trans e
      obtain rfl := d_int d_at_
      refine y_gname (σ' := [some v_spring_, some v_calls_, some v_hands_, some (V.int many_), some v_ones_, some (V.int at_), none, none, none, none, none]) rfl ?_
      refine ⟨rfl, ?_⟩
      refine y_test ?_
      refine y_op ?_
      refine y_op ?_
      refine y_op ?_
      refine y_var rfl ?_
      refine y_var rfl ?_
      refine y_ixL (LV.sub d_calls_ (mgS (mgS mgE))) z hw (fun t17 w d18 hw => ?_)
      refine y_c ?_
      refine y_ixT (y := t17.1) d18 z ⟨_, rfl, rfl⟩ (fun w d19 => ?_)
      first | obtain rfl := d_int d19 | cases d_int d19
      refine y_op ?_
      refine y_var rfl ?_
      refine y_c ?_
      refine y_ixT (y := hands_.2) d_hands_ z ⟨_, rfl, rfl⟩ (fun w d20 => ?_)
      first | obtain rfl := d_int d20 | cases d_int d20
      refine y_eqi ?_
      refine ⟨_, rfl, ?_⟩
      refine w_two (fun hb => ?_) (fun hb => ?_)
      · replace hw := run_itT (run_ret hw) hb
        refine y_var rfl ?_
        exact (run_ret hw) _ _ _ (Same.refl _) z (Dq.int _)
      · exact run_itF (run_ret hw) hb _ _ (Same.refl _) z
    replace d_calls_ := LV.mo d_calls_ e
    replace d_hands_ := D.mo d_hands_ e
    replace d_ones_ := D.mo d_ones_ e
    replace d_spring_ := OH.mo d_spring_ e
    have es25 := es14.trans e
    replace z : Zs ([(p21, HO.lst ws22)] ++ (g_spring_ ++ amb)) H Ho := z
    have o26 := OL.mk (p := p21) d23
    refine l_fr o26 z (fun Ho e z d27 => ?_)
    replace d_calls_ := LV.mo d_calls_ e
    replace d_ones_ := D.mo d_ones_ e
    replace d_spring_ := OH.mo d_spring_ e
    have es28 := es25.trans e
    refine l_d (K := K) (Ho := Ho) hw d27 (fun others_ v_others_ d_others_ hw => ?_)
    refine l_asg (fun v => [_, _, _, _, _, _, _, some v, _, _, _]) (fun _ => rfl) ?_
    refine k_lst ?_
    refine y_nil ?_
    refine k_lstk (K := K) (xs := ([] : (List (P4 Int Int Int Int)))) z DqAll.nil (by show 0 ≤ sizeLine; decide) (fun H p29 ws30 z d31 => ?_)
    replace z : Zs ([(p29, HO.lst ws30)] ++ (g_spring_ ++ amb)) H Ho := z
    have o32 := OL.mk (p := p29) d31
    refine l_o hw z o32 (fun found_ v_found_ g_found_ z d_found_ hw => ?_)
    refine y_for ?_
    refine k_iR1 ?_
    refine y_cons ?_
    refine y_var rfl ?_
    refine y_nil ?_
    refine k_srcR1 (K := K) (Ho := Ho) hw.1 (fun J T => ?_)
    replace hw := (run_gd hw).2
    refine y_forL T hw (fun (s : (H3 Int Int Int) × (List (P4 Int Int Int Int))) (σ : L2.St) (H Ho : Hp) => ∃ (g_spring_ : Grp) (g_found_ : Grp) (y_again_ : Option V) (y_one_ : Option V) (y_other_ : Option V), σ = [some v_spring_, some v_calls_, some v_hands_, some (V.int many_), some v_ones_, none, some v_others_, some v_found_, y_again_, y_one_, y_other_] ∧ Zs (g_found_ ++ (g_spring_ ++ amb)) H Ho ∧ OH K Ho v_spring_ s.1 g_spring_ ∧ OL K Ho v_found_ s.2 g_found_) ⟨_, _, _, _, _, rfl, z, d_spring_, d_found_⟩ ?_ ?_ ?_ ?_
    · intro s σ H Ho hI
      obtain ⟨spring_, found_⟩ := s
      obtain ⟨g_spring_, g_found_, y_again_, y_one_, y_other_, rfl, z, d_spring_, d_found_⟩ := hI
      exact ⟨_, z, mgN⟩
    · intro s σ H Ho H2 Ho2 hI e t
      obtain ⟨spring_, found_⟩ := s
      obtain ⟨g_spring_, g_found_, y_again_, y_one_, y_other_, rfl, z, d_spring_, d_found_⟩ := hI
      exact ⟨_, _, _, _, _, rfl, t _ z, OH.mo d_spring_ e, OL.mo d_found_ e⟩
    · intro again_ v_again_ s σ H Ho N e hI d_again_ hw
      obtain ⟨spring_, found_⟩ := s
      obtain ⟨g_spring_, g_found_, y_again_, y_one_, y_other_, rfl, z, d_spring_, d_found_⟩ := hI
      replace d_calls_ := LV.mo d_calls_ e
      replace d_ones_ := D.mo d_ones_ e
      replace d_others_ := D.mo d_others_ e
      have es33 := es28.trans e
      obtain rfl := d_int d_again_
      refine y_gname (σ' := [some v_spring_, some v_calls_, some v_hands_, some (V.int many_), some v_ones_, none, some v_others_, some v_found_, some (V.int again_), y_one_, y_other_]) rfl ?_
      refine l_asg (fun v => [_, _, _, _, _, _, _, _, _, some v, _]) (fun _ => rfl) ?_
      refine y_op ?_
      refine y_var rfl ?_
      refine y_call ?_
      refine y_cons ?_
      refine y_var rfl ?_
      refine y_cons ?_
      refine y_cb ?_
      refine y_cons ?_
      refine y_var rfl ?_
      refine y_nil ?_
      refine y_len (LV.of d_ones_) z ?_
      refine y_nil ?_
      replace z : Zs (g_spring_ ++ (g_found_ ++ amb)) _ _ := z.go [g_found_, g_spring_] amb [1, 0]
      refine ⟨(g_found_ ++ amb), _, _, _, _, _, _, rfl, z, d_spring_, (Dq.int _), ?_⟩
      refine run_mono2 hw (fun t34 spring_ hw v g_spring_ H Ho e z d35 d_spring_ => ?_)
      replace d35 : Z.D K Ho v t34 := d35
      replace d_spring_ : OH K Ho v_spring_ spring_ g_spring_ := d_spring_
      replace d_calls_ := LV.mo d_calls_ e
      replace d_found_ := OL.mo d_found_ e
      replace d_ones_ := D.mo d_ones_ e
      replace d_others_ := D.mo d_others_ e
      have es37 := (Same.refl _).trans e
      first | obtain rfl := d_int d35 | cases d_int d35
      refine y_ixL (LV.of d_ones_) z hw (fun t38 w d39 hw => ?_)
      first | obtain rfl := d_int d39 | cases d_int d39
      refine l_i hw (fun one_ hw => ?_)
      refine l_asg (fun v => [_, _, _, _, _, _, _, _, _, _, some v]) (fun _ => rfl) ?_
      refine y_op ?_
      refine y_var rfl ?_
      refine y_call ?_
      refine y_cons ?_
      refine y_var rfl ?_
      refine y_cons ?_
      refine y_cb ?_
      refine y_cons ?_
      refine y_var rfl ?_
      refine y_nil ?_
      refine y_len (LV.of d_others_) z ?_
      refine y_nil ?_
      refine ⟨(g_found_ ++ amb), _, _, _, _, _, _, rfl, z, d_spring_, (Dq.int _), ?_⟩
      refine run_mono2 hw (fun t40 spring_ hw v g_spring_ H Ho e z d41 d_spring_ => ?_)
      replace d41 : Z.D K Ho v t40 := d41
      replace d_spring_ : OH K Ho v_spring_ spring_ g_spring_ := d_spring_
      replace d_calls_ := LV.mo d_calls_ e
      replace d_found_ := OL.mo d_found_ e
      replace d_ones_ := D.mo d_ones_ e
      replace d_others_ := D.mo d_others_ e
      have es43 := es37.trans e
      first | obtain rfl := d_int d41 | cases d_int d41
      refine y_ixL (LV.of d_others_) z hw (fun t44 w d45 hw => ?_)
      first | obtain rfl := d_int d45 | cases d_int d45
      refine l_i hw (fun other_ hw => ?_)
      refine y_ifS ?_
      refine y_test ?_
      refine y_op ?_
      refine y_var rfl ?_
      refine y_var rfl ?_
      refine y_i0 ?_
      refine ⟨_, rfl, ?_⟩
      refine w_ifJ hw (fun (s : (List (P4 Int Int Int Int))) (σ : L2.St) (H : Hp) => ∃ Ho2, Same Ho Ho2 ∧ (fun (s : (List (P4 Int Int Int Int))) (σ : L2.St) (H Ho : Hp) => ∃ (g_found_ : Grp), σ = [some v_spring_, some v_calls_, some v_hands_, some (V.int many_), some v_ones_, none, some v_others_, some v_found_, some (V.int again_), some (V.int one_), some (V.int other_)] ∧ Zs (g_spring_ ++ (g_found_ ++ amb)) H Ho ∧ OL K Ho v_found_ s g_found_) s σ H Ho2) (fun hb hw => ?_) (fun hb hw => ?_) ?_
      · refine y_drop ?_
        refine y_bm ?_
        refine y_var rfl ?_
        refine g_tyL (OL.lv d_found_ (mgS mg0)) z ?_
        refine y_cons ?_
        refine y_op ?_
        refine y_op ?_
        refine y_var rfl ?_
        refine y_var rfl ?_
        refine y_ixL (LV.sub d_calls_ (mgS (mgS mgE))) z hw (fun t46 w d47 hw => ?_)
        refine y_op ?_
        refine y_var rfl ?_
        refine y_var rfl ?_
        refine y_ixL (LV.sub d_calls_ (mgS (mgS mgE))) z hw (fun t48 w d49 hw => ?_)
        refine y_cat22 d47 d49 z (fun p H Ho e z d50 => ?_)
        replace d_calls_ := LV.mo d_calls_ e
        replace d_found_ := OL.mo d_found_ e
        replace d_ones_ := D.mo d_ones_ e
        replace d_others_ := D.mo d_others_ e
        replace d_spring_ := OH.mo d_spring_ e
        have es51 := (Same.refl _).trans e
        refine y_nil ?_
        replace z : Zs (g_found_ ++ (g_spring_ ++ amb)) _ _ := z.go [g_spring_, g_found_] amb [1, 0]
        refine g_app z d_found_ d50 hw (fun found_ g_found_ H z d_found_ hw => ?_)
        replace z : Zs (g_spring_ ++ (g_found_ ++ amb)) _ _ := z.go [g_found_, g_spring_] amb [1, 0]
        exact (run_ret hw) _ _ ⟨_, es51, ⟨_, rfl, z, d_found_⟩⟩
      · refine y_nxS ?_
        exact (run_ret hw) _ _ ⟨_, (Same.refl _), ⟨_, rfl, z, d_found_⟩⟩
      rintro found_ σ H ⟨Ho, e, g_found_, rfl, z, d_found_⟩ hw
      replace d_calls_ := LV.mo d_calls_ e
      replace d_ones_ := D.mo d_ones_ e
      replace d_others_ := D.mo d_others_ e
      replace d_spring_ := OH.mo d_spring_ e
      have es52 := es43.trans e
      replace z : Zs (g_found_ ++ (g_spring_ ++ amb)) _ _ := z.go [g_spring_, g_found_] amb [1, 0]
      exact (run_ret hw) _ _ _ es52 ⟨_, _, _, _, _, rfl, z, d_spring_, d_found_⟩
    intro s σ H Ho e hI hw
    obtain ⟨spring_, found_⟩ := s
    obtain ⟨g_spring_, g_found_, y_again_, y_one_, y_other_, rfl, z, d_spring_, d_found_⟩ := hI
    have es53 := es28.trans e
    refine y_ret ?_
    refine y_var rfl ?_
    refine l_fr d_found_ z (fun Ho e z d_found_ => ?_)
    replace d_spring_ := OH.mo d_spring_ e
    have es54 := es53.trans e
    exact (run_ret hw) _ _ _ _ es54 z d_found_ d_spring_
def sp_law_one_unmet (K : PySem.W.Frag) (cl : Nat → Addr) : Sp := fun vs H Q E => ∃ (amb : Grp) (Ho : Hp) (v0 : V) (x0 : (List (P3 Int Str Int))) (v1 : V) (x1 : (List (P4 Int Int Int Int))) (v2 : V) (x2 : (List (P4 Int Int Int Int))), vs = [v0, v1, v2] ∧ Zs amb H Ho ∧ LV K amb Ho v0 x0 ∧ LV K amb Ho v1 x1 ∧ LV K amb Ho v2 x2 ∧ (m_law_one_unmet x0 x1 x2).run fun r => ∀ v H' Ho', Same Ho Ho' → Zs amb H' Ho' → Z.D K Ho' v r → Q v H'
abbrev s_law_one_unmet : Stmt := topS 30
theorem sc_law_one_unmet : FnScope ["web", "wants", "some", "want", "note"] ["web", "wants", "some"] (defScope s_law_one_unmet) := ⟨rfl, rfl, rfl, by decide +kernel, rfl, by decide +kernel, by decide +kernel⟩
theorem ok_law_one_unmet {f : Addr} {fd : FuncData} (F : Fun K "_law_one_unmet" "_law_one_unmet" s_law_one_unmet f fd) {f_meets_want : Addr} {fd_meets_want : FuncData} (c_meets_want : Cal P w K mg base CX0 "meets_want" ["web", "note", "want"] 3 (sp_meets_want K cl) f_meets_want fd_meets_want) (m_any : mg "any" = none) :
    FnOk P w K mg base CX0 4 f fd ["web", "wants", "some"] (sp_law_one_unmet K cl) := by
  refine F.ok sc_law_one_unmet (fun vs H Q E h => ?_) (fun cdv A outer s H vs Q E hr h => ?_)
  · obtain ⟨amb, Ho, v_web_, web_, v_wants_, wants_, v_some_, some_, rfl, _⟩ := h
    rfl
  · obtain ⟨amb, Ho, v_web_, web_, v_wants_, wants_, v_some_, some_, rfl, z, d_web_, d_wants_, d_some_, hw⟩ := h
    refine ⟨_, pss_cons (ps_for PassesOwn.never rfl (zpi_list (K := K) rfl (pv 1)) (pg_name (i := 3) sc_law_one_unmet.nd rfl (Or.inr rfl)) (pss_cons (ps_if (pt_not (pt_val (pe_callB (zany (K := K) rfl rfl) (by rfl) m_any (by decide +kernel) (pa_cons (pe_lc (own := [("note", 4)]) rfl sc_law_one_unmet.nd (zpi_list (K := K) rfl (pv 2)) (blkOk_by (N := ["web", "wants", "some", "want", "note"]) (sc := defScope s_law_one_unmet) (by decide +kernel)) (fun _ _ _ _ _ => pg_name (i := 4) sc_law_one_unmet.nd rfl (Or.inl rfl)) (fun _ _ _ _ _ => pts_nil) (fun _ _ _ _ _ => pe_call c_meets_want.ok (hr.mono (by decide)) (by rfl) c_meets_want.g c_meets_want.kp c_meets_want.b .nil pass0 (pa_cons (pv 0) (pa_cons (pv 4) (pa_cons (pv 3) (pa_nil)))))) (pa_nil))))) (pss_cons (ps_ret (pe_bl)) (pss_nil)) (pss_nil)) (pss_nil))) (pss_cons (ps_ret (pe_bl)) (pss_nil)), ?_⟩
    refine y_for ?_
    refine k_iList ?_
    refine y_var rfl ?_
    refine k_srcL (r0 := amb) (LV.sub d_wants_ mgE) mgE z (fun J T => ?_)
    refine y_forC T hw (fun (s : Unit) (σ : L2.St) (H Ho : Hp) => ∃ (y_want_ : Option V), σ = [some v_web_, some v_wants_, some v_some_, y_want_, none] ∧ Zs amb H Ho) ⟨_, rfl, z⟩ ?_ ?_ ?_ ?_
    · intro s σ H Ho hI
      obtain ⟨y_want_, rfl, z⟩ := hI
      exact ⟨_, z, mgE⟩
    · intro s σ H Ho H2 Ho2 hI e t
      obtain ⟨y_want_, rfl, z⟩ := hI
      exact ⟨_, rfl, t _ z⟩
    · intro want_ v_want_ s σ H Ho N B e hI d_want_ hw
      obtain ⟨y_want_, rfl, z⟩ := hI
      replace d_some_ := LV.mo d_some_ e
      replace d_web_ := LV.mo d_web_ e
      have es1 := (Same.refl _).trans e
      refine y_gname (σ' := [some v_web_, some v_wants_, some v_some_, some v_want_, none]) rfl ?_
      refine y_ifS ?_
      refine y_not ?_
      refine y_tB ?_
      refine y_cb ?_
      refine y_cons ?_
      refine y_lc ?_
      refine k_iList ?_
      refine y_var rfl ?_
      refine k_srcL (r0 := amb) (LV.sub d_some_ mgE) mgE z (fun J T => ?_)
      refine y_lcG z mgE T hw (fun r2 note_ v_note_ H Ho N N' e z d_note_ hw => ?_) (fun t11 H Ho e hw p8 ws9 z d10 => ?_)
      · replace z : Zs ([r2] ++ amb) H Ho := z
        replace d_some_ := LV.mo d_some_ e
        replace d_want_ := D.mo d_want_ e
        replace d_web_ := LV.mo d_web_ e
        have es3 := (Same.refl _).trans e
        refine y_gname (σ' := [some v_web_, some v_wants_, some v_some_, some v_want_, some v_note_]) rfl ?_
        refine ⟨rfl, ?_⟩
        refine y_yes (w_t ?_)
        replace hw := run_itT (run_bret hw) rfl
        refine y_call ?_
        refine y_cons ?_
        refine y_var rfl ?_
        refine y_cons ?_
        refine y_var rfl ?_
        refine y_cons ?_
        refine y_var rfl ?_
        refine y_nil ?_
        refine ⟨([r2] ++ amb), _, _, _, _, _, _, _, rfl, z, (LV.sub d_web_ (mgS mgE)), d_note_, d_want_, ?_⟩
        refine run_mono3 hw (fun t4 hw v H Ho e z d5 => ?_)
        replace d_note_ := D.mo d_note_ e
        replace d_some_ := LV.mo d_some_ e
        replace d_want_ := D.mo d_want_ e
        replace d_web_ := LV.mo d_web_ e
        have es7 := (Same.refl _).trans e
        first | obtain rfl := d_bool d5 | cases d_bool d5
        exact (run_ret hw) _ _ _ es7 z (Dq.bl _)
      replace d_some_ := LV.mo d_some_ e
      replace d_want_ := D.mo d_want_ e
      replace d_web_ := LV.mo d_web_ e
      have es12 := (Same.refl _).trans e
      replace z : Zs ([(p8, HO.lst ws9)] ++ amb) H Ho := z
      have o13 := OL.mk (p := p8) d10
      refine y_nil ?_
      refine y_any (OL.lv o13 mg0) z ?_
      refine ⟨_, rfl, ?_⟩
      refine y_cases hw (fun hb hw => ?_) (fun hb hw => ?_)
      · replace z : Zs amb _ _ := z.go [[(p8, HO.lst ws9)]] amb []
        refine y_ret ?_
        refine y_c ?_
        exact (ctl_rt (run_ret hw)) _ _ _ (es1.trans es12) z (Dq.bl _)
      · refine y_nxS ?_
        replace z : Zs amb _ _ := z.go [[(p8, HO.lst ws9)]] amb []
        exact ctl_nx (run_ret hw) _ _ _ es12 ⟨_, rfl, z⟩
    intro s σ H Ho e hI hw
    obtain ⟨y_want_, rfl, z⟩ := hI
    have es14 := (Same.refl _).trans e
    refine y_ret ?_
    refine y_c ?_
    exact (run_ret hw) _ _ _ es14 z (Dq.bl _)
def sp_law (K : PySem.W.Frag) (cl : Nat → Addr) : Sp := fun vs H Q E => ∃ (amb : Grp) (Ho : Hp) (v0 : V) (x0 : (List Int)), vs = [v0] ∧ Zs amb H Ho ∧ LV K amb Ho v0 x0 ∧ (m_law x0).run fun r => ∀ v H' Ho', Same Ho Ho' → Zs amb H' Ho' → Z.D K Ho' v r → Q v H'
abbrev s_law : Stmt := topS 31
theorem sc_law : FnScope ["script", "spring", "web", "calls", "handed", "told", "wants", "note", "want", "again", "at", "hands", "these", "begun"] ["script"] (defScope s_law) := ⟨rfl, rfl, rfl, by decide +kernel, rfl, by decide +kernel, by decide +kernel⟩
theorem ok_law {f : Addr} {fd : FuncData} (F : Fun K "law" "law" s_law f fd) {f_law_spring : Addr} {fd_law_spring : FuncData} (c_law_spring : Cal P w K mg base CX0 "_law_spring" ["script"] 1 (sp_law_spring K cl) f_law_spring fd_law_spring) {f_law_web : Addr} {fd_law_web : FuncData} (c_law_web : Cal P w K mg base CX0 "_law_web" ["spring", "most"] 2 (sp_law_web K cl) f_law_web fd_law_web) {f_law_calls : Addr} {fd_law_calls : FuncData} (c_law_calls : Cal P w K mg base CX0 "_law_calls" ["web"] 1 (sp_law_calls K cl) f_law_calls fd_law_calls) {f_strict_notes : Addr} {fd_strict_notes : FuncData} (c_strict_notes : Cal P w K mg base CX0 "strict_notes" ["web"] 4 (sp_strict_notes K cl) f_strict_notes fd_strict_notes) {f_wants_apart : Addr} {fd_wants_apart : FuncData} (c_wants_apart : Cal P w K mg base CX0 "wants_apart" ["web"] 4 (sp_wants_apart K cl) f_wants_apart fd_wants_apart) {f_law_ends : Addr} {fd_law_ends : FuncData} (c_law_ends : Cal P w K mg base CX0 "_law_ends" ["calls", "note"] 1 (sp_law_ends K cl) f_law_ends fd_law_ends) {f_law_all_met : Addr} {fd_law_all_met : FuncData} (c_law_all_met : Cal P w K mg base CX0 "_law_all_met" ["web", "calls", "told"] 2 (sp_law_all_met K cl) f_law_all_met fd_law_all_met) {f_law_is_want : Addr} {fd_law_is_want : FuncData} (c_law_is_want : Cal P w K mg base CX0 "_law_is_want" ["web", "calls", "note"] 2 (sp_law_is_want K cl) f_law_is_want fd_law_is_want) {f_law_counts : Addr} {fd_law_counts : FuncData} (c_law_counts : Cal P w K mg base CX0 "_law_counts" ["some"] 1 (sp_law_counts K cl) f_law_counts fd_law_counts) {f_apart_shows : Addr} {fd_apart_shows : FuncData} (c_apart_shows : Cal P w K mg base CX0 "apart_shows" ["web", "wants"] 3 (sp_apart_shows K cl) f_apart_shows fd_apart_shows) {f_law_draw : Addr} {fd_law_draw : FuncData} (c_law_draw : Cal P w K mg base CX0 "_law_draw" ["spring", "many"] 1 (sp_law_draw K cl) f_law_draw fd_law_draw) {f_law_one_unmet : Addr} {fd_law_one_unmet : FuncData} (c_law_one_unmet : Cal P w K mg base CX0 "_law_one_unmet" ["web", "wants", "some"] 4 (sp_law_one_unmet K cl) f_law_one_unmet fd_law_one_unmet) {f_law_fewer : Addr} {fd_law_fewer : FuncData} (c_law_fewer : Cal P w K mg base CX0 "_law_fewer" ["spring", "calls", "hands", "many"] 2 (sp_law_fewer K cl) f_law_fewer fd_law_fewer) (m_list : mg "list" = none) (m_isinstance : mg "isinstance" = none) (m_all : mg "all" = none) (m_len : mg "len" = none) (m_set : mg "set" = none) (m_min : mg "min" = none) (m_range : mg "range" = none) :
    FnOk P w K mg base CX0 5 f fd ["script"] (sp_law K cl) := by
  refine F.ok sc_law (fun vs H Q E h => ?_) (fun cdv A outer s H vs Q E hr h => ?_)
  · obtain ⟨amb, Ho, v_script_, script_, rfl, _⟩ := h
    rfl
  · obtain ⟨amb, Ho, v_script_, script_, rfl, z, d_script_, hw⟩ := h
    refine ⟨_, pss_cons (ps_set (i := 1) sc_law.nd rfl (Or.inl rfl) (pe_call c_law_spring.ok (hr.mono (by decide)) (by rfl) c_law_spring.g c_law_spring.kp c_law_spring.b .nil pass0 (pa_cons (pv 0) (pa_nil)))) (pss_cons (ps_set (i := 2) sc_law.nd rfl (Or.inr rfl) (pe_call c_law_web.ok (hr.mono (by decide)) (by rfl) c_law_web.g c_law_web.kp c_law_web.b .nil pass0 (pa_cons (pv 1) (pa_cons (pe_int) (pa_nil))))) (pss_cons (ps_set (i := 3) sc_law.nd rfl (Or.inr rfl) (pe_call c_law_calls.ok (hr.mono (by decide)) (by rfl) c_law_calls.g c_law_calls.kp c_law_calls.b .nil pass0 (pa_cons (pv 2) (pa_nil)))) (pss_cons (ps_set (i := 4) sc_law.nd rfl (Or.inl rfl) (pe_callTy (zlist (K := K) rfl) (by rfl) m_list (by decide +kernel) (pa_cons (pv 2) (pa_nil)))) (pss_cons (ps_set (i := 5) sc_law.nd rfl (Or.inl rfl) (pe_call c_strict_notes.ok (hr.mono (by decide)) (by rfl) c_strict_notes.g c_strict_notes.kp c_strict_notes.b .nil pass0 (pa_cons (pv 4) (pa_nil)))) (pss_cons (ps_set (i := 6) sc_law.nd rfl (Or.inl rfl) (pe_call c_wants_apart.ok (hr.mono (by decide)) (by rfl) c_wants_apart.g c_wants_apart.kp c_wants_apart.b .nil pass0 (pa_cons (pv 4) (pa_nil)))) (pss_cons (ps_if (PW.pt (pw_or (pt_not (pt_val (pe_callB (zisi (K := K) rfl) (by rfl) m_isinstance (by decide +kernel) (pa_cons (pv 5) (pa_cons (pe_bltn (v := .ty "list") (by rfl) m_list (by decide +kernel) rfl) pa_nil))))) (pw_or (pt_not (pt_val (pe_callB (zisi (K := K) rfl) (by rfl) m_isinstance (by decide +kernel) (pa_cons (pv 6) (pa_cons (pe_bltn (v := .ty "list") (by rfl) m_list (by decide +kernel) rfl) pa_nil))))) (pw_or1 (pt_cmpR (zop_neD (K := K) rfl hr.units) (pv 4) (pv 2) (nomark _)))))) (pss_cons (ps_ret (pe_bl)) (pss_nil)) (pss_nil)) (pss_cons (ps_if (PW.pt (pw_or (pt_not (pt_val (pe_callB (zall (K := K) rfl rfl) (by rfl) m_all (by decide +kernel) (pa_cons (pe_lc (own := [("note", 7)]) rfl sc_law.nd (zpi_list (K := K) rfl (pv 5)) (blkOk_by (N := ["script", "spring", "web", "calls", "handed", "told", "wants", "note", "want", "again", "at", "hands", "these", "begun"]) (sc := defScope s_law) (by decide +kernel)) (fun _ _ _ _ _ => pg_name (i := 7) sc_law.nd rfl (Or.inl rfl)) (fun _ _ _ _ _ => pts_nil) (fun _ _ _ _ _ => pe_cmpR (op_notN) (pe_call c_law_ends.ok (hr.mono (by decide)) (by rfl) c_law_ends.g c_law_ends.kp c_law_ends.b .nil pass0 (pa_cons (pv 3) (pa_cons (pv 7) (pa_nil)))) (pe_non) (nomark _))) (pa_nil))))) (pw_or1 (pt_cmpR (op_ne) (Zb.pe_lenSetB rfl (room65 hr) (by rfl) m_len (by rfl) m_set (pv 5)) (pe_callB (zlen (K := K) rfl) (by rfl) m_len (by decide +kernel) (pa_cons (pv 5) (pa_nil))) (nomark _))))) (pss_cons (ps_ret (pe_bl)) (pss_nil)) (pss_nil)) (pss_cons (ps_if (PW.pt (pw_or (pt_not (pt_val (pe_call c_law_all_met.ok (hr.mono (by decide)) (by rfl) c_law_all_met.g c_law_all_met.kp c_law_all_met.b .nil pass0 (pa_cons (pv 2) (pa_cons (pv 3) (pa_cons (pv 5) (pa_nil))))))) (pw_or1 (pt_not (pt_val (pe_callB (zall (K := K) rfl rfl) (by rfl) m_all (by decide +kernel) (pa_cons (pe_lc (own := [("want", 8)]) rfl sc_law.nd (zpi_list (K := K) rfl (pv 6)) (blkOk_by (N := ["script", "spring", "web", "calls", "handed", "told", "wants", "note", "want", "again", "at", "hands", "these", "begun"]) (sc := defScope s_law) (by decide +kernel)) (fun _ _ _ _ _ => pg_name (i := 8) sc_law.nd rfl (Or.inl rfl)) (fun _ _ _ _ _ => pts_nil) (fun _ _ _ _ _ => pe_call c_law_is_want.ok (hr.mono (by decide)) (by rfl) c_law_is_want.g c_law_is_want.kp c_law_is_want.b .nil pass0 (pa_cons (pv 2) (pa_cons (pv 3) (pa_cons (pv 8) (pa_nil)))))) (pa_nil)))))))) (pss_cons (ps_ret (pe_bl)) (pss_nil)) (pss_nil)) (pss_cons (ps_if (PW.pt (pw_or (pt_cmpR (op_dneT (room1 hr)) (pe_call c_law_counts.ok (hr.mono (by decide)) (by rfl) c_law_counts.g c_law_counts.kp c_law_counts.b .nil pass0 (pa_cons (pv 5) (pa_nil))) (pe_call c_law_counts.ok (hr.mono (by decide)) (by rfl) c_law_counts.g c_law_counts.kp c_law_counts.b .nil pass0 (pa_cons (pv 6) (pa_nil))) (nomark _)) (pw_or1 (pt_cmpR (op_notB) (pe_call c_apart_shows.ok (hr.mono (by decide)) (by rfl) c_apart_shows.g c_apart_shows.kp c_apart_shows.b .nil pass0 (pa_cons (pv 4) (pa_cons (pe_callTy (zlist (K := K) rfl) (by rfl) m_list (by decide +kernel) (pa_cons (pv 6) (pa_nil))) (pa_nil)))) (pe_bl) (nomark _))))) (pss_cons (ps_ret (pe_bl)) (pss_nil)) (pss_nil)) (pss_cons (ps_for PassesOwn.never rfl (pi_range1 (by rfl) m_range (pa_cons (pe_op op_mulW (pe_op op_add (pe_int) (pe_callB (call_min2 rfl) (by rfl) m_min (by decide +kernel) (pa_cons (pe_callB (zlen (K := K) rfl) (by rfl) m_len (by decide +kernel) (pa_cons (pv 0) (pa_nil))) (pa_cons (pe_int) (pa_nil))))) (pe_callB (call_min2 rfl) (by rfl) m_min (by decide +kernel) (pa_cons (pe_int) (pa_cons (pe_callB (zlen (K := K) rfl) (by rfl) m_len (by decide +kernel) (pa_cons (pv 5) (pa_nil))) (pa_nil))))) (pa_nil))) (pg_name (i := 9) sc_law.nd rfl (Or.inl rfl)) (pss_cons (ps_set (i := 10) sc_law.nd rfl (Or.inl rfl) (pe_ix (zix_list (K := K) rfl) (pv 5) (pe_call c_law_draw.ok (hr.mono (by decide)) (by rfl) c_law_draw.g c_law_draw.kp c_law_draw.b .nil pass0 (pa_cons (pv 1) (pa_cons (pe_callB (zlen (K := K) rfl) (by rfl) m_len (by decide +kernel) (pa_cons (pv 5) (pa_nil))) (pa_nil)))) (fun _ _ => rfl))) (pss_cons (ps_set (i := 11) sc_law.nd rfl (Or.inr rfl) (pe_tup (pa_cons (pe_ix (zix_tup (K := K) rfl) (pv 10) (pe_int) (fun _ _ => rfl)) (pa_cons (pe_ix (zix_tup (K := K) rfl) (pv 10) (pe_int) (fun _ _ => rfl)) (pa_nil))))) (pss_cons (ps_setLc (i := 12) (own := [("want", 8)]) rfl sc_law.nd rfl rfl (sw_true rfl rfl rfl (by decide +kernel)) (zpi_list (K := K) rfl (pv 6)) (blkOk_by (N := ["script", "spring", "web", "calls", "handed", "told", "wants", "note", "want", "again", "at", "hands", "these", "begun"]) (sc := defScope s_law) (by decide +kernel)) (fun _ _ _ _ _ => pg_name (i := 8) sc_law.nd rfl (Or.inl rfl)) (fun _ _ _ _ _ => pts_one (PW.pt (pw_and (pt_cmpR (op_eq) (pe_ix (zix_tup (K := K) rfl) (pv 8) (pe_int) (fun _ _ => rfl)) (pe_ix (zix_tup (K := K) rfl) (pv 11) (pe_int) (fun _ _ => rfl)) (nomark _)) (pw_and1 (pt_cmpR (op_eq) (pe_ix (zix_tup (K := K) rfl) (pv 8) (pe_int) (fun _ _ => rfl)) (pe_ix (zix_tup (K := K) rfl) (pv 11) (pe_int) (fun _ _ => rfl)) (nomark _)))))) (fun _ _ _ _ _ => pv 8)) (pss_cons (ps_set (i := 13) sc_law.nd rfl (Or.inl rfl) (pe_call c_law_draw.ok (hr.mono (by decide)) (by rfl) c_law_draw.g c_law_draw.kp c_law_draw.b .nil pass0 (pa_cons (pv 1) (pa_cons (pe_callB (zlen (K := K) rfl) (by rfl) m_len (by decide +kernel) (pa_cons (pv 12) (pa_nil))) (pa_nil))))) (pss_cons (ps_set (i := 12) sc_law.nd rfl (Or.inl rfl) (pe_slice (zsl_list (K := K) rfl) (pe_op (zop_catS (K := K) rfl) (pe_slice (zsl_list (K := K) rfl) (pv 12) (po_some (pv 13)) po_none) (pe_slice (zsl_list (K := K) rfl) (pv 12) po_none (po_some (pv 13)))) po_none (po_some (pe_int)))) (pss_cons (ps_if (pt_not (pt_val (pe_call c_law_one_unmet.ok (hr.mono (by decide)) (by rfl) c_law_one_unmet.g c_law_one_unmet.kp c_law_one_unmet.b .nil pass0 (pa_cons (pv 4) (pa_cons (pv 12) (pa_cons (pe_call c_law_fewer.ok (hr.mono (by decide)) (by rfl) c_law_fewer.g c_law_fewer.kp c_law_fewer.b .nil pass0 (pa_cons (pv 1) (pa_cons (pv 3) (pa_cons (pv 11) (pa_cons (pe_op op_sub (pe_callB (zlen (K := K) rfl) (by rfl) m_len (by decide +kernel) (pa_cons (pv 12) (pa_nil))) (pe_int)) (pa_nil)))))) (pa_nil))))))) (pss_cons (ps_ret (pe_bl)) (pss_nil)) (pss_nil)) (pss_nil)))))))) (pss_cons (ps_ret (pe_cmpR (zop_eqD (K := K) rfl hr.units) (pv 4) (pv 2) (nomark _))) (pss_nil)))))))))))), ?_⟩
    refine l_asg (fun v => [_, some v, _, _, _, _, _, _, _, _, _, _, _, _]) (fun _ => rfl) ?_
    refine y_call ?_
    refine y_cons ?_
    refine y_var rfl ?_
    refine y_nil ?_
    refine ⟨amb, _, _, _, rfl, z, (LV.sub d_script_ mgE), ?_⟩
    refine run_mono3 hw (fun t1 hw v g3 H Ho e z d2 => ?_)
    replace d_script_ := LV.mo d_script_ e
    have es4 := (Same.refl _).trans e
    refine h_o hw z d2 (fun spring_ v_spring_ g_spring_ z d_spring_ hw => ?_)
    refine l_asg (fun v => [_, _, some v, _, _, _, _, _, _, _, _, _, _, _]) (fun _ => rfl) ?_
    refine y_call ?_
    refine y_cons ?_
    refine y_var rfl ?_
    refine y_cons ?_
    refine y_c ?_
    refine y_nil ?_
    refine ⟨amb, _, _, _, _, _, _, rfl, z, d_spring_, (Dq.int _), ?_⟩
    refine run_mono2 hw (fun t5 spring_ hw v g_spring_ H Ho e z d6 d_spring_ => ?_)
    replace d6 : Z.D K Ho v t5 := d6
    replace d_spring_ : OH K Ho v_spring_ spring_ g_spring_ := d_spring_
    replace d_script_ := LV.mo d_script_ e
    have es8 := es4.trans e
    refine l_d (K := K) (Ho := Ho) hw d6 (fun web_ v_web_ d_web_ hw => ?_)
    refine l_asg (fun v => [_, _, _, some v, _, _, _, _, _, _, _, _, _, _]) (fun _ => rfl) ?_
    refine y_call ?_
    refine y_cons ?_
    refine y_var rfl ?_
    refine y_nil ?_
    refine ⟨(g_spring_ ++ amb), _, _, _, rfl, z, (LV.of d_web_), ?_⟩
    refine run_mono3 hw (fun t9 hw v H Ho e z d10 => ?_)
    replace d_script_ := LV.mo d_script_ e
    replace d_spring_ := OH.mo d_spring_ e
    replace d_web_ := D.mo d_web_ e
    have es12 := es8.trans e
    refine l_d (K := K) (Ho := Ho) hw d10 (fun calls_ v_calls_ d_calls_ hw => ?_)
    refine l_asg (fun v => [_, _, _, _, some v, _, _, _, _, _, _, _, _, _]) (fun _ => rfl) ?_
    refine y_cb ?_
    refine y_cons ?_
    refine y_var rfl ?_
    refine y_nil ?_
    refine y_list (LV.of d_web_) z (fun H p13 ws14 z d15 => ?_)
    replace z : Zs ([(p13, HO.lst ws14)] ++ (g_spring_ ++ amb)) H Ho := z
    have o16 := OL.mk (p := p13) d15
    refine l_fr o16 z (fun Ho e z d17 => ?_)
    replace d_calls_ := D.mo d_calls_ e
    replace d_script_ := LV.mo d_script_ e
    replace d_spring_ := OH.mo d_spring_ e
    replace d_web_ := D.mo d_web_ e
    have es18 := es12.trans e
    refine l_d (K := K) (Ho := Ho) hw d17 (fun handed_ v_handed_ d_handed_ hw => ?_)
    refine l_asg (fun v => [_, _, _, _, _, some v, _, _, _, _, _, _, _, _]) (fun _ => rfl) ?_
    refine y_call ?_
    refine y_cons ?_
    refine y_var rfl ?_
    refine y_nil ?_
    refine ⟨(g_spring_ ++ amb), _, _, _, rfl, z, (LV.of d_handed_), ?_⟩
    refine run_mono3 hw (fun t19 hw v g21 H Ho e z d20 => ?_)
    replace d_calls_ := D.mo d_calls_ e
    replace d_handed_ := D.mo d_handed_ e
    replace d_script_ := LV.mo d_script_ e
    replace d_spring_ := OH.mo d_spring_ e
    replace d_web_ := D.mo d_web_ e
    have es22 := es18.trans e
    refine l_fr d20 z (fun Ho e z d23 => ?_)
    replace d_calls_ := D.mo d_calls_ e
    replace d_handed_ := D.mo d_handed_ e
    replace d_script_ := LV.mo d_script_ e
    replace d_spring_ := OH.mo d_spring_ e
    replace d_web_ := D.mo d_web_ e
    have es24 := es22.trans e
    refine l_d (K := K) (Ho := Ho) hw d23 (fun told_ v_told_ d_told_ hw => ?_)
    refine l_asg (fun v => [_, _, _, _, _, _, some v, _, _, _, _, _, _, _]) (fun _ => rfl) ?_
    refine y_call ?_
    refine y_cons ?_
    refine y_var rfl ?_
    refine y_nil ?_
    refine ⟨(g_spring_ ++ amb), _, _, _, rfl, z, (LV.of d_handed_), ?_⟩
    refine run_mono3 hw (fun t25 hw v g27 H Ho e z d26 => ?_)
    replace d_calls_ := D.mo d_calls_ e
    replace d_handed_ := D.mo d_handed_ e
    replace d_script_ := LV.mo d_script_ e
    replace d_spring_ := OH.mo d_spring_ e
    replace d_told_ := D.mo d_told_ e
    replace d_web_ := D.mo d_web_ e
    have es28 := es24.trans e
    refine l_fr d26 z (fun Ho e z d29 => ?_)
    replace d_calls_ := D.mo d_calls_ e
    replace d_handed_ := D.mo d_handed_ e
    replace d_script_ := LV.mo d_script_ e
    replace d_spring_ := OH.mo d_spring_ e
    replace d_told_ := D.mo d_told_ e
    replace d_web_ := D.mo d_web_ e
    have es30 := es28.trans e
    refine l_d (K := K) (Ho := Ho) hw d29 (fun wants_ v_wants_ d_wants_ hw => ?_)
    refine y_ifS ?_
    refine y_or ?_
    refine y_not ?_
    refine y_tB ?_
    refine y_cb ?_
    refine y_cons ?_
    refine y_var rfl ?_
    refine y_cons (y_c (y_nil ?_))
    refine y_isi (x := _) (D.mo d_told_ z.le) (b := true) (by decide +kernel) ?_
    refine ⟨_, rfl, ?_⟩
    refine w_orJ hw (fun (s : Bool) (v : Bool) (H2 : Hp) => ∃ (Ho2 : Hp), Same Ho Ho2 ∧ Zs (g_spring_ ++ amb) H2 Ho2 ∧ v = s) (fun hb hw => ?_) (fun hb hw => ?_) ?_
    · exact (run_ret hw) _ _ ⟨_, (Same.refl _), z, rfl⟩
    · refine y_or ?_
      refine y_not ?_
      refine y_tB ?_
      refine y_cb ?_
      refine y_cons ?_
      refine y_var rfl ?_
      refine y_cons (y_c (y_nil ?_))
      refine y_isi (x := _) (D.mo d_wants_ z.le) (b := true) (by decide +kernel) ?_
      refine ⟨_, rfl, ?_⟩
      refine w_orJ hw (fun (s : Bool) (v : Bool) (H2 : Hp) => ∃ (Ho2 : Hp), Same Ho Ho2 ∧ Zs (g_spring_ ++ amb) H2 Ho2 ∧ v = s) (fun hb hw => ?_) (fun hb hw => ?_) ?_
      · exact (run_ret hw) _ _ ⟨_, (Same.refl _), z, rfl⟩
      · refine y_test ?_
        refine y_op ?_
        refine y_var rfl ?_
        refine y_var rfl ?_
        refine y_neD (D.mo d_handed_ z.le) (D.mo d_web_ z.le) hw.1 ?_
        replace hw := (run_gd hw).2
        refine ⟨_, rfl, ?_⟩
        exact (run_ret hw) _ _ ⟨_, (Same.refl _), z, rfl⟩
      rintro t31 v H ⟨Ho, e, z, rfl⟩ hw
      replace d_calls_ := D.mo d_calls_ e
      replace d_handed_ := D.mo d_handed_ e
      replace d_script_ := LV.mo d_script_ e
      replace d_spring_ := OH.mo d_spring_ e
      replace d_told_ := D.mo d_told_ e
      replace d_wants_ := D.mo d_wants_ e
      replace d_web_ := D.mo d_web_ e
      have es34 := (Same.refl _).trans e
      exact (run_ret hw) _ _ ⟨_, es34, z, rfl⟩
    rintro t35 v H ⟨Ho, e, z, rfl⟩ hw
    replace d_calls_ := D.mo d_calls_ e
    replace d_handed_ := D.mo d_handed_ e
    replace d_script_ := LV.mo d_script_ e
    replace d_spring_ := OH.mo d_spring_ e
    replace d_told_ := D.mo d_told_ e
    replace d_wants_ := D.mo d_wants_ e
    replace d_web_ := D.mo d_web_ e
    have es38 := es30.trans e
    refine y_cases hw (fun hb hw => ?_) (fun hb hw => ?_)
    · refine y_ret ?_
      refine y_c ?_
      replace z : Zs amb _ _ := z.go [g_spring_] amb []
      exact (run_ret hw) _ _ _ es38 z (Dq.bl _)
    · refine y_nxS ?_
      refine y_ifS ?_
      refine y_or ?_
      refine y_not ?_
      refine y_tB ?_
      refine y_cb ?_
      refine y_cons ?_
      refine y_lc ?_
      refine k_iList ?_
      refine y_var rfl ?_
      refine k_srcL (r0 := ([] : Grp)) (LV.of d_told_) mgN z (fun J T => ?_)
      refine y_lcG z mgN T hw (fun r39 note_ v_note_ H Ho N N' e z d_note_ hw => ?_) (fun t48 H Ho e hw p45 ws46 z d47 => ?_)
      · replace z : Zs ([r39] ++ (g_spring_ ++ amb)) H Ho := z
        replace d_calls_ := D.mo d_calls_ e
        replace d_handed_ := D.mo d_handed_ e
        replace d_script_ := LV.mo d_script_ e
        replace d_spring_ := OH.mo d_spring_ e
        replace d_told_ := D.mo d_told_ e
        replace d_wants_ := D.mo d_wants_ e
        replace d_web_ := D.mo d_web_ e
        have es40 := es38.trans e
        refine y_gname (σ' := [some v_script_, some v_spring_, some v_web_, some v_calls_, some v_handed_, some v_told_, some v_wants_, some v_note_, none, none, none, none, none, none]) rfl ?_
        refine ⟨rfl, ?_⟩
        refine y_yes (w_t ?_)
        replace hw := run_itT (run_bret hw) rfl
        refine y_op ?_
        refine y_call ?_
        refine y_cons ?_
        refine y_var rfl ?_
        refine y_cons ?_
        refine y_var rfl ?_
        refine y_nil ?_
        refine ⟨([r39] ++ (g_spring_ ++ amb)), _, _, _, _, _, rfl, z, (LV.of d_calls_), d_note_, ?_⟩
        refine run_mono3 hw (fun t41 hw v H Ho e z d42 => ?_)
        replace d_calls_ := D.mo d_calls_ e
        replace d_handed_ := D.mo d_handed_ e
        replace d_note_ := D.mo d_note_ e
        replace d_script_ := LV.mo d_script_ e
        replace d_spring_ := OH.mo d_spring_ e
        replace d_told_ := D.mo d_told_ e
        replace d_wants_ := D.mo d_wants_ e
        replace d_web_ := D.mo d_web_ e
        have es44 := (Same.refl _).trans e
        refine y_c ?_
        refine ⟨rfl, ?_⟩
        rw [dec_non d42 hw.1, not_isNone]
        replace hw := (run_gd hw).2
        exact (run_ret hw) _ _ _ es44 z (Dq.bl _)
      replace d_calls_ := D.mo d_calls_ e
      replace d_handed_ := D.mo d_handed_ e
      replace d_script_ := LV.mo d_script_ e
      replace d_spring_ := OH.mo d_spring_ e
      replace d_told_ := D.mo d_told_ e
      replace d_wants_ := D.mo d_wants_ e
      replace d_web_ := D.mo d_web_ e
      have es49 := es38.trans e
      replace z : Zs ([(p45, HO.lst ws46)] ++ (g_spring_ ++ amb)) H Ho := z
      have o50 := OL.mk (p := p45) d47
      refine y_nil ?_
      refine y_all (OL.lv o50 mg0) z ?_
      refine ⟨_, rfl, ?_⟩
      refine w_orJ hw (fun (s : Bool) (v : Bool) (H2 : Hp) => ∃ (Ho2 : Hp), Same Ho Ho2 ∧ Zs ([(p45, HO.lst ws46)] ++ (g_spring_ ++ amb)) H2 Ho2 ∧ v = s) (fun hb hw => ?_) (fun hb hw => ?_) ?_
      · exact (run_ret hw) _ _ ⟨_, (Same.refl _), z, rfl⟩
      · refine y_test ?_
        refine y_op ?_
        refine k_lenSet ?_
        refine y_var rfl ?_
        refine y_lenSet (α := (P4 Int Int Int Int)) (LV.of d_told_) z hw.1 ?_
        replace hw := (run_gd hw).2
        refine y_cb ?_
        refine y_cons ?_
        refine y_var rfl ?_
        refine y_nil ?_
        refine y_len (LV.of d_told_) z ?_
        refine y_nei ?_
        refine ⟨_, rfl, ?_⟩
        exact (run_ret hw) _ _ ⟨_, (Same.refl _), z, rfl⟩
      rintro t51 v H ⟨Ho, e, z, rfl⟩ hw
      replace d_calls_ := D.mo d_calls_ e
      replace d_handed_ := D.mo d_handed_ e
      replace d_script_ := LV.mo d_script_ e
      replace d_spring_ := OH.mo d_spring_ e
      replace d_told_ := D.mo d_told_ e
      replace d_wants_ := D.mo d_wants_ e
      replace d_web_ := D.mo d_web_ e
      have es54 := es49.trans e
      refine y_cases hw (fun hb hw => ?_) (fun hb hw => ?_)
      · replace z : Zs (g_spring_ ++ amb) _ _ := z.go [[(p45, HO.lst ws46)], g_spring_] amb [1]
        refine y_ret ?_
        refine y_c ?_
        replace z : Zs amb _ _ := z.go [g_spring_] amb []
        exact (run_ret hw) _ _ _ es54 z (Dq.bl _)
      · refine y_nxS ?_
        replace z : Zs (g_spring_ ++ amb) _ _ := z.go [[(p45, HO.lst ws46)], g_spring_] amb [1]
        refine y_ifS ?_
        refine y_or ?_
        refine y_not ?_
        refine y_tB ?_
        refine y_call ?_
        refine y_cons ?_
        refine y_var rfl ?_
        refine y_cons ?_
        refine y_var rfl ?_
        refine y_cons ?_
        refine y_var rfl ?_
        refine y_nil ?_
        refine ⟨(g_spring_ ++ amb), _, _, _, _, _, _, _, rfl, z, (LV.of d_web_), (LV.of d_calls_), (LV.of d_told_), ?_⟩
        refine run_mono3 hw (fun t55 hw v H Ho e z d56 => ?_)
        replace d_calls_ := D.mo d_calls_ e
        replace d_handed_ := D.mo d_handed_ e
        replace d_script_ := LV.mo d_script_ e
        replace d_spring_ := OH.mo d_spring_ e
        replace d_told_ := D.mo d_told_ e
        replace d_wants_ := D.mo d_wants_ e
        replace d_web_ := D.mo d_web_ e
        have es58 := es54.trans e
        first | obtain rfl := d_bool d56 | cases d_bool d56
        refine ⟨_, rfl, ?_⟩
        refine w_orJ hw (fun (s : Bool) (v : Bool) (H2 : Hp) => ∃ (Ho2 : Hp), Same Ho Ho2 ∧ Zs (g_spring_ ++ amb) H2 Ho2 ∧ v = s) (fun hb hw => ?_) (fun hb hw => ?_) ?_
        · exact (run_ret hw) _ _ ⟨_, (Same.refl _), z, rfl⟩
        · refine y_not ?_
          refine y_tB ?_
          refine y_cb ?_
          refine y_cons ?_
          refine y_lc ?_
          refine k_iList ?_
          refine y_var rfl ?_
          refine k_srcL (r0 := ([] : Grp)) (LV.of d_wants_) mgN z (fun J T => ?_)
          refine y_lcG z mgN T hw (fun r59 want_ v_want_ H Ho N N' e z d_want_ hw => ?_) (fun t68 H Ho e hw p65 ws66 z d67 => ?_)
          · replace z : Zs ([r59] ++ (g_spring_ ++ amb)) H Ho := z
            replace d_calls_ := D.mo d_calls_ e
            replace d_handed_ := D.mo d_handed_ e
            replace d_script_ := LV.mo d_script_ e
            replace d_spring_ := OH.mo d_spring_ e
            replace d_told_ := D.mo d_told_ e
            replace d_wants_ := D.mo d_wants_ e
            replace d_web_ := D.mo d_web_ e
            have es60 := (Same.refl _).trans e
            refine y_gname (σ' := [some v_script_, some v_spring_, some v_web_, some v_calls_, some v_handed_, some v_told_, some v_wants_, none, some v_want_, none, none, none, none, none]) rfl ?_
            refine ⟨rfl, ?_⟩
            refine y_yes (w_t ?_)
            replace hw := run_itT (run_bret hw) rfl
            refine y_call ?_
            refine y_cons ?_
            refine y_var rfl ?_
            refine y_cons ?_
            refine y_var rfl ?_
            refine y_cons ?_
            refine y_var rfl ?_
            refine y_nil ?_
            refine ⟨([r59] ++ (g_spring_ ++ amb)), _, _, _, _, _, _, _, rfl, z, (LV.of d_web_), (LV.of d_calls_), d_want_, ?_⟩
            refine run_mono3 hw (fun t61 hw v H Ho e z d62 => ?_)
            replace d_calls_ := D.mo d_calls_ e
            replace d_handed_ := D.mo d_handed_ e
            replace d_script_ := LV.mo d_script_ e
            replace d_spring_ := OH.mo d_spring_ e
            replace d_told_ := D.mo d_told_ e
            replace d_want_ := D.mo d_want_ e
            replace d_wants_ := D.mo d_wants_ e
            replace d_web_ := D.mo d_web_ e
            have es64 := (Same.refl _).trans e
            first | obtain rfl := d_bool d62 | cases d_bool d62
            exact (run_ret hw) _ _ _ es64 z (Dq.bl _)
          replace d_calls_ := D.mo d_calls_ e
          replace d_handed_ := D.mo d_handed_ e
          replace d_script_ := LV.mo d_script_ e
          replace d_spring_ := OH.mo d_spring_ e
          replace d_told_ := D.mo d_told_ e
          replace d_wants_ := D.mo d_wants_ e
          replace d_web_ := D.mo d_web_ e
          have es69 := (Same.refl _).trans e
          replace z : Zs ([(p65, HO.lst ws66)] ++ (g_spring_ ++ amb)) H Ho := z
          have o70 := OL.mk (p := p65) d67
          refine y_nil ?_
          refine y_all (OL.lv o70 mg0) z ?_
          refine ⟨_, rfl, ?_⟩
          replace z : Zs (g_spring_ ++ amb) _ _ := z.go [[(p65, HO.lst ws66)], g_spring_] amb [1]
          exact (run_ret hw) _ _ ⟨_, es69, z, rfl⟩
        rintro t71 v H ⟨Ho, e, z, rfl⟩ hw
        replace d_calls_ := D.mo d_calls_ e
        replace d_handed_ := D.mo d_handed_ e
        replace d_script_ := LV.mo d_script_ e
        replace d_spring_ := OH.mo d_spring_ e
        replace d_told_ := D.mo d_told_ e
        replace d_wants_ := D.mo d_wants_ e
        replace d_web_ := D.mo d_web_ e
        have es74 := es58.trans e
        refine y_cases hw (fun hb hw => ?_) (fun hb hw => ?_)
        · refine y_ret ?_
          refine y_c ?_
          replace z : Zs amb _ _ := z.go [g_spring_] amb []
          exact (run_ret hw) _ _ _ es74 z (Dq.bl _)
        · refine y_nxS ?_
          refine y_ifS ?_
          refine y_or ?_
          refine y_test ?_
          refine y_op ?_
          refine y_call ?_
          refine y_cons ?_
          refine y_var rfl ?_
          refine y_nil ?_
          refine ⟨(g_spring_ ++ amb), _, _, _, rfl, z, (LV.of d_told_), ?_⟩
          refine run_mono3 hw (fun t75 hw v g77 H Ho e z d76 => ?_)
          replace d_calls_ := D.mo d_calls_ e
          replace d_handed_ := D.mo d_handed_ e
          replace d_script_ := LV.mo d_script_ e
          replace d_spring_ := OH.mo d_spring_ e
          replace d_told_ := D.mo d_told_ e
          replace d_wants_ := D.mo d_wants_ e
          replace d_web_ := D.mo d_web_ e
          have es78 := es74.trans e
          refine y_call ?_
          refine y_cons ?_
          refine y_var rfl ?_
          refine y_nil ?_
          refine ⟨(g77 ++ (g_spring_ ++ amb)), _, _, _, rfl, z, (LV.of d_wants_), ?_⟩
          refine run_mono3 hw (fun t79 hw v g81 H Ho e z d80 => ?_)
          replace d_calls_ := D.mo d_calls_ e
          replace d_handed_ := D.mo d_handed_ e
          replace d_script_ := LV.mo d_script_ e
          replace d_spring_ := OH.mo d_spring_ e
          replace d_told_ := D.mo d_told_ e
          replace d_wants_ := D.mo d_wants_ e
          replace d_web_ := D.mo d_web_ e
          replace d76 := OD.mo d76 e
          have es82 := es78.trans e
          refine y_dneT ⟨_, d76, (mgS mg0)⟩ ⟨_, d80, mg0⟩ z ?_
          refine ⟨_, rfl, ?_⟩
          refine w_orJ hw (fun (s : Bool) (v : Bool) (H2 : Hp) => ∃ (Ho2 : Hp), Same Ho Ho2 ∧ Zs (g81 ++ (g77 ++ (g_spring_ ++ amb))) H2 Ho2 ∧ v = s) (fun hb hw => ?_) (fun hb hw => ?_) ?_
          · exact (run_ret hw) _ _ ⟨_, (Same.refl _), z, rfl⟩
          · refine y_test ?_
            refine y_op ?_
            refine y_call ?_
            refine y_cons ?_
            refine y_var rfl ?_
            refine y_cons ?_
            refine y_cb ?_
            refine y_cons ?_
            refine y_var rfl ?_
            refine y_nil ?_
            refine y_list (LV.of d_wants_) z (fun H p83 ws84 z d85 => ?_)
            replace z : Zs ([(p83, HO.lst ws84)] ++ (g81 ++ (g77 ++ (g_spring_ ++ amb)))) H Ho := z
            have o86 := OL.mk (p := p83) d85
            refine y_nil ?_
            refine ⟨([(p83, HO.lst ws84)] ++ (g81 ++ (g77 ++ (g_spring_ ++ amb)))), _, _, _, _, _, rfl, z, (LV.of d_handed_), (OL.lv o86 mg0), ?_⟩
            refine run_mono3 hw (fun t87 hw v H Ho e z d88 => ?_)
            replace d_calls_ := D.mo d_calls_ e
            replace d_handed_ := D.mo d_handed_ e
            replace d_script_ := LV.mo d_script_ e
            replace d_spring_ := OH.mo d_spring_ e
            replace d_told_ := D.mo d_told_ e
            replace d_wants_ := D.mo d_wants_ e
            replace d_web_ := D.mo d_web_ e
            have es90 := (Same.refl _).trans e
            first | obtain rfl := d_bool d88 | cases d_bool d88
            refine y_c ?_
            refine y_notB ?_
            refine ⟨_, rfl, ?_⟩
            replace z : Zs (g81 ++ (g77 ++ (g_spring_ ++ amb))) _ _ := z.go [[(p83, HO.lst ws84)], g81, g77, g_spring_] amb [1, 2, 3]
            exact (run_ret hw) _ _ ⟨_, es90, z, rfl⟩
          rintro t91 v H ⟨Ho, e, z, rfl⟩ hw
          replace d_calls_ := D.mo d_calls_ e
          replace d_handed_ := D.mo d_handed_ e
          replace d_script_ := LV.mo d_script_ e
          replace d_spring_ := OH.mo d_spring_ e
          replace d_told_ := D.mo d_told_ e
          replace d_wants_ := D.mo d_wants_ e
          replace d_web_ := D.mo d_web_ e
          have es94 := es82.trans e
          refine y_cases hw (fun hb hw => ?_) (fun hb hw => ?_)
          · replace z : Zs (g_spring_ ++ amb) _ _ := z.go [g81, g77, g_spring_] amb [2]
            refine y_ret ?_
            refine y_c ?_
            replace z : Zs amb _ _ := z.go [g_spring_] amb []
            exact (run_ret hw) _ _ _ es94 z (Dq.bl _)
          · refine y_nxS ?_
            replace z : Zs (g_spring_ ++ amb) _ _ := z.go [g81, g77, g_spring_] amb [2]
            refine y_for ?_
            refine k_iR1 ?_
            refine y_cons ?_
            refine y_op ?_
            refine y_op ?_
            refine y_c ?_
            refine y_cb ?_
            refine y_cons ?_
            refine y_cb ?_
            refine y_cons ?_
            refine y_var rfl ?_
            refine y_nil ?_
            refine y_len (LV.sub d_script_ (mgS mgE)) z ?_
            refine y_cons ?_
            refine y_c ?_
            refine y_nil ?_
            refine ⟨_, _, rfl, ?_⟩
            refine y_i0 ?_
            refine y_cb ?_
            refine y_cons ?_
            refine y_c ?_
            refine y_cons ?_
            refine y_cb ?_
            refine y_cons ?_
            refine y_var rfl ?_
            refine y_nil ?_
            refine y_len (LV.of d_told_) z ?_
            refine y_nil ?_
            refine ⟨_, _, rfl, ?_⟩
            refine y_ig hw.1 ?_
            replace hw := (run_gd hw).2
            refine y_nil ?_
            refine k_srcR1 (K := K) (Ho := Ho) hw.1 (fun J T => ?_)
            replace hw := (run_gd hw).2
            refine y_forC T hw (fun (s : (H3 Int Int Int)) (σ : L2.St) (H Ho : Hp) => ∃ (g_spring_ : Grp) (y_again_ : Option V) (y_at_ : Option V) (y_hands_ : Option V) (y_these_ : Option V) (y_begun_ : Option V), σ = [some v_script_, some v_spring_, some v_web_, some v_calls_, some v_handed_, some v_told_, some v_wants_, none, none, y_again_, y_at_, y_hands_, y_these_, y_begun_] ∧ Zs (g_spring_ ++ amb) H Ho ∧ OH K Ho v_spring_ s g_spring_) ⟨_, _, _, _, _, _, rfl, z, d_spring_⟩ ?_ ?_ ?_ ?_
            · intro s σ H Ho hI
              obtain ⟨g_spring_, y_again_, y_at_, y_hands_, y_these_, y_begun_, rfl, z, d_spring_⟩ := hI
              exact ⟨_, z, mgN⟩
            · intro s σ H Ho H2 Ho2 hI e t
              obtain ⟨g_spring_, y_again_, y_at_, y_hands_, y_these_, y_begun_, rfl, z, d_spring_⟩ := hI
              exact ⟨_, _, _, _, _, _, rfl, t _ z, OH.mo d_spring_ e⟩
            · intro again_ v_again_ s σ H Ho N B e hI d_again_ hw
              obtain ⟨spring_, rfl⟩ : ∃ q, q = s := ⟨_, rfl⟩
              obtain ⟨g_spring_, y_again_, y_at_, y_hands_, y_these_, y_begun_, rfl, z, d_spring_⟩ := hI
              replace d_calls_ := D.mo d_calls_ e
              replace d_handed_ := D.mo d_handed_ e
              replace d_told_ := D.mo d_told_ e
              replace d_wants_ := D.mo d_wants_ e
              replace d_web_ := D.mo d_web_ e
              have es95 := es94.trans e
              obtain rfl := d_int d_again_
              refine y_gname (σ' := [some v_script_, some v_spring_, some v_web_, some v_calls_, some v_handed_, some v_told_, some v_wants_, none, none, some (V.int again_), y_at_, y_hands_, y_these_, y_begun_]) rfl ?_
              refine l_asg (fun v => [_, _, _, _, _, _, _, _, _, _, some v, _, _, _]) (fun _ => rfl) ?_
              refine y_op ?_
              refine y_var rfl ?_
              refine y_call ?_
              refine y_cons ?_
              refine y_var rfl ?_
              refine y_cons ?_
              refine y_cb ?_
              refine y_cons ?_
              refine y_var rfl ?_
              refine y_nil ?_
              refine y_len (LV.of d_told_) z ?_
              refine y_nil ?_
              refine ⟨amb, _, _, _, _, _, _, rfl, z, d_spring_, (Dq.int _), ?_⟩
              refine run_mono2 hw (fun t96 spring_ hw v g_spring_ H Ho e z d97 d_spring_ => ?_)
              replace d97 : Z.D K Ho v t96 := d97
              replace d_spring_ : OH K Ho v_spring_ spring_ g_spring_ := d_spring_
              replace d_calls_ := D.mo d_calls_ e
              replace d_handed_ := D.mo d_handed_ e
              replace d_told_ := D.mo d_told_ e
              replace d_wants_ := D.mo d_wants_ e
              replace d_web_ := D.mo d_web_ e
              have es99 := (Same.refl _).trans e
              first | obtain rfl := d_int d97 | cases d_int d97
              refine y_ixL (LV.of d_told_) z hw (fun t100 w d101 hw => ?_)
              refine l_d (K := K) (Ho := Ho) hw d101 (fun at_ v_at_ d_at_ hw => ?_)
              refine l_asg (fun v => [_, _, _, _, _, _, _, _, _, _, _, some v, _, _]) (fun _ => rfl) ?_
              refine k_tup ?_
              refine y_cons ?_
              refine y_op ?_
              refine y_var rfl ?_
              refine y_c ?_
              refine y_ixT (y := at_.a) d_at_ z ⟨_, rfl, rfl⟩ (fun w d102 => ?_)
              first | obtain rfl := d_int d102 | cases d_int d102
              refine y_cons ?_
              refine y_op ?_
              refine y_var rfl ?_
              refine y_c ?_
              refine y_ixT (y := at_.c) d_at_ z ⟨_, rfl, rfl⟩ (fun w d103 => ?_)
              first | obtain rfl := d_int d103 | cases d_int d103
              refine y_nil ?_
              refine k_tupk (K := K) (x := (at_.a, at_.c)) z (by show 2 ≤ sizeLine; decide) _ rfl (DqAll.cons (Dq.int _) (DqAll.cons (Dq.int _) DqAll.nil)) (fun p H Ho e z d104 => ?_)
              replace d_at_ := D.mo d_at_ e
              replace d_calls_ := D.mo d_calls_ e
              replace d_handed_ := D.mo d_handed_ e
              replace d_spring_ := OH.mo d_spring_ e
              replace d_told_ := D.mo d_told_ e
              replace d_wants_ := D.mo d_wants_ e
              replace d_web_ := D.mo d_web_ e
              have es105 := es99.trans e
              refine l_d (K := K) (Ho := Ho) hw d104 (fun hands_ v_hands_ d_hands_ hw => ?_)
              refine l_asg (fun v => [_, _, _, _, _, _, _, _, _, _, _, _, some v, _]) (fun _ => rfl) ?_
              refine y_lc ?_
              refine k_iList ?_
              refine y_var rfl ?_
              refine k_srcL (r0 := ([] : Grp)) (LV.of d_wants_) mgN z (fun J T => ?_)
              refine y_lcG z mgN T hw (fun r106 want_ v_want_ H Ho N N' e z d_want_ hw => ?_) (fun t115 H Ho e hw p112 ws113 z d114 => ?_)
              · replace z : Zs ([r106] ++ (g_spring_ ++ amb)) H Ho := z
                replace d_at_ := D.mo d_at_ e
                replace d_calls_ := D.mo d_calls_ e
                replace d_handed_ := D.mo d_handed_ e
                replace d_hands_ := D.mo d_hands_ e
                replace d_spring_ := OH.mo d_spring_ e
                replace d_told_ := D.mo d_told_ e
                replace d_wants_ := D.mo d_wants_ e
                replace d_web_ := D.mo d_web_ e
                have es107 := es105.trans e
                refine y_gname (σ' := [some v_script_, some v_spring_, some v_web_, some v_calls_, some v_handed_, some v_told_, some v_wants_, none, some v_want_, some (V.int again_), some v_at_, some v_hands_, y_these_, y_begun_]) rfl ?_
                refine ⟨rfl, ?_⟩
                refine y_and ?_
                refine y_test ?_
                refine y_op ?_
                refine y_op ?_
                refine y_var rfl ?_
                refine y_c ?_
                refine y_ixT (y := want_.a) d_want_ z ⟨_, rfl, rfl⟩ (fun w d108 => ?_)
                first | obtain rfl := d_int d108 | cases d_int d108
                refine y_op ?_
                refine y_var rfl ?_
                refine y_c ?_
                refine y_ixT (y := hands_.1) d_hands_ z ⟨_, rfl, rfl⟩ (fun w d109 => ?_)
                first | obtain rfl := d_int d109 | cases d_int d109
                refine y_eqi ?_
                refine ⟨_, rfl, ?_⟩
                refine w_andP (a := (decide (want_.a = hands_.1))) (decide (want_.c = hands_.2)) (fun hb hq => ?_) ?_
                · refine y_test ?_
                  refine y_op ?_
                  refine y_op ?_
                  refine y_var rfl ?_
                  refine y_c ?_
                  refine y_ixT (y := want_.c) d_want_ z ⟨_, rfl, rfl⟩ (fun w d110 => ?_)
                  first | obtain rfl := d_int d110 | cases d_int d110
                  refine y_op ?_
                  refine y_var rfl ?_
                  refine y_c ?_
                  refine y_ixT (y := hands_.2) d_hands_ z ⟨_, rfl, rfl⟩ (fun w d111 => ?_)
                  first | obtain rfl := d_int d111 | cases d_int d111
                  refine y_eqi ?_
                  refine ⟨_, rfl, ?_⟩
                  exact hq
                refine w_two (fun hb => ?_) (fun hb => ?_)
                · replace hw := run_itT (run_ret hw) hb
                  refine y_var rfl ?_
                  exact (run_ret hw) _ _ _ (Same.refl _) z d_want_
                · exact run_itF (run_ret hw) hb _ _ (Same.refl _) z
              replace d_at_ := D.mo d_at_ e
              replace d_calls_ := D.mo d_calls_ e
              replace d_handed_ := D.mo d_handed_ e
              replace d_hands_ := D.mo d_hands_ e
              replace d_spring_ := OH.mo d_spring_ e
              replace d_told_ := D.mo d_told_ e
              replace d_wants_ := D.mo d_wants_ e
              replace d_web_ := D.mo d_web_ e
              have es116 := es105.trans e
              replace z : Zs ([(p112, HO.lst ws113)] ++ (g_spring_ ++ amb)) H Ho := z
              have o117 := OL.mk (p := p112) d114
              refine l_fr o117 z (fun Ho e z d118 => ?_)
              replace d_at_ := D.mo d_at_ e
              replace d_calls_ := D.mo d_calls_ e
              replace d_handed_ := D.mo d_handed_ e
              replace d_hands_ := D.mo d_hands_ e
              replace d_spring_ := OH.mo d_spring_ e
              replace d_told_ := D.mo d_told_ e
              replace d_wants_ := D.mo d_wants_ e
              replace d_web_ := D.mo d_web_ e
              have es119 := es116.trans e
              refine l_d (K := K) (Ho := Ho) hw d118 (fun these_ v_these_ d_these_ hw => ?_)
              refine l_asg (fun v => [_, _, _, _, _, _, _, _, _, _, _, _, _, some v]) (fun _ => rfl) ?_
              refine y_call ?_
              refine y_cons ?_
              refine y_var rfl ?_
              refine y_cons ?_
              refine y_cb ?_
              refine y_cons ?_
              refine y_var rfl ?_
              refine y_nil ?_
              refine y_len (LV.of d_these_) z ?_
              refine y_nil ?_
              refine ⟨amb, _, _, _, _, _, _, rfl, z, d_spring_, (Dq.int _), ?_⟩
              refine run_mono2 hw (fun t120 spring_ hw v g_spring_ H Ho e z d121 d_spring_ => ?_)
              replace d121 : Z.D K Ho v t120 := d121
              replace d_spring_ : OH K Ho v_spring_ spring_ g_spring_ := d_spring_
              replace d_at_ := D.mo d_at_ e
              replace d_calls_ := D.mo d_calls_ e
              replace d_handed_ := D.mo d_handed_ e
              replace d_hands_ := D.mo d_hands_ e
              replace d_these_ := D.mo d_these_ e
              replace d_told_ := D.mo d_told_ e
              replace d_wants_ := D.mo d_wants_ e
              replace d_web_ := D.mo d_web_ e
              have es123 := es119.trans e
              first | obtain rfl := d_int d121 | cases d_int d121
              refine l_i hw (fun begun_ hw => ?_)
              refine l_asg (fun v => [_, _, _, _, _, _, _, _, _, _, _, _, some v, _]) (fun _ => rfl) ?_
              refine y_sl ?_
              refine y_op ?_
              refine y_sl ?_
              refine y_var rfl ?_
              refine y_part ?_
              refine y_var rfl ?_
              refine ⟨_, rfl, ?_⟩
              refine y_noPart ?_
              refine y_slL (LV.of d_these_) z (fun H p124 ws125 z d126 => ?_)
              replace z : Zs ([(p124, HO.lst ws125)] ++ (g_spring_ ++ amb)) H Ho := z
              have o127 := OL.mk (p := p124) d126
              refine y_sl ?_
              refine y_var rfl ?_
              refine y_noPart ?_
              refine y_part ?_
              refine y_var rfl ?_
              refine ⟨_, rfl, ?_⟩
              refine y_slL (LV.of d_these_) z (fun H p128 ws129 z d130 => ?_)
              replace z : Zs ([(p128, HO.lst ws129)] ++ ([(p124, HO.lst ws125)] ++ (g_spring_ ++ amb))) H Ho := z
              have o131 := OL.mk (p := p128) d130
              refine y_cat (OL.lv o127 (mgS mg0)) (OL.lv o131 mg0) z hw.1 (fun H p132 ws133 z d134 => ?_)
              replace hw := (run_gd hw).2
              replace z : Zs ([(p132, HO.lst ws133)] ++ ([(p128, HO.lst ws129)] ++ ([(p124, HO.lst ws125)] ++ (g_spring_ ++ amb)))) H Ho := z
              have o135 := OL.mk (p := p132) d134
              refine y_noPart ?_
              refine y_part ?_
              refine y_c ?_
              refine ⟨_, rfl, ?_⟩
              refine y_slL (OL.lv o135 mg0) z (fun H p136 ws137 z d138 => ?_)
              replace z : Zs ([(p136, HO.lst ws137)] ++ ([(p132, HO.lst ws133)] ++ ([(p128, HO.lst ws129)] ++ ([(p124, HO.lst ws125)] ++ (g_spring_ ++ amb))))) H Ho := z
              have o139 := OL.mk (p := p136) d138
              refine l_fr o139 z (fun Ho e z d140 => ?_)
              replace d_at_ := D.mo d_at_ e
              replace d_calls_ := D.mo d_calls_ e
              replace d_handed_ := D.mo d_handed_ e
              replace d_hands_ := D.mo d_hands_ e
              replace d_spring_ := OH.mo d_spring_ e
              replace d_these_ := D.mo d_these_ e
              replace d_told_ := D.mo d_told_ e
              replace d_wants_ := D.mo d_wants_ e
              replace d_web_ := D.mo d_web_ e
              have es141 := es123.trans e
              refine l_d (K := K) (Ho := Ho) hw d140 (fun these_ v_these_ d_these_ hw => ?_)
              replace z : Zs (g_spring_ ++ amb) _ _ := z.go [[(p132, HO.lst ws133)], [(p128, HO.lst ws129)], [(p124, HO.lst ws125)], g_spring_] amb [3]
              refine y_ifS ?_
              refine y_not ?_
              refine y_tB ?_
              refine y_call ?_
              refine y_cons ?_
              refine y_var rfl ?_
              refine y_cons ?_
              refine y_var rfl ?_
              refine y_cons ?_
              refine y_call ?_
              refine y_cons ?_
              refine y_var rfl ?_
              refine y_cons ?_
              refine y_var rfl ?_
              refine y_cons ?_
              refine y_var rfl ?_
              refine y_cons ?_
              refine y_op ?_
              refine y_cb ?_
              refine y_cons ?_
              refine y_var rfl ?_
              refine y_nil ?_
              refine y_len (LV.of d_these_) z ?_
              refine y_c ?_
              refine y_i0 ?_
              refine y_nil ?_
              refine ⟨amb, _, _, _, _, _, _, _, _, _, _, rfl, z, d_spring_, (LV.of d_calls_), d_hands_, (Dq.int _), ?_⟩
              refine run_mono2 hw (fun t142 spring_ hw v g_spring_ H Ho e z d143 d_spring_ => ?_)
              replace d143 : Z.D K Ho v t142 := d143
              replace d_spring_ : OH K Ho v_spring_ spring_ g_spring_ := d_spring_
              replace d_at_ := D.mo d_at_ e
              replace d_calls_ := D.mo d_calls_ e
              replace d_handed_ := D.mo d_handed_ e
              replace d_hands_ := D.mo d_hands_ e
              replace d_these_ := D.mo d_these_ e
              replace d_told_ := D.mo d_told_ e
              replace d_wants_ := D.mo d_wants_ e
              replace d_web_ := D.mo d_web_ e
              have es145 := es141.trans e
              refine y_nil ?_
              refine ⟨(g_spring_ ++ amb), _, _, _, _, _, _, _, rfl, z, (LV.of d_handed_), (LV.of d_these_), (LV.of d143), ?_⟩
              refine run_mono3 hw (fun t146 hw v H Ho e z d147 => ?_)
              replace d_at_ := D.mo d_at_ e
              replace d_calls_ := D.mo d_calls_ e
              replace d_handed_ := D.mo d_handed_ e
              replace d_hands_ := D.mo d_hands_ e
              replace d_spring_ := OH.mo d_spring_ e
              replace d_these_ := D.mo d_these_ e
              replace d_told_ := D.mo d_told_ e
              replace d_wants_ := D.mo d_wants_ e
              replace d_web_ := D.mo d_web_ e
              have es149 := es145.trans e
              first | obtain rfl := d_bool d147 | cases d_bool d147
              refine ⟨_, rfl, ?_⟩
              refine y_cases hw (fun hb hw => ?_) (fun hb hw => ?_)
              · refine y_ret ?_
                refine y_c ?_
                replace z : Zs amb _ _ := z.go [g_spring_] amb []
                exact (ctl_rt (run_ret hw)) _ _ _ (es95.trans es149) z (Dq.bl _)
              · refine y_nxS ?_
                exact ctl_nx (run_ret hw) _ _ _ es149 ⟨_, _, _, _, _, _, rfl, z, d_spring_⟩
            intro s σ H Ho e hI hw
            obtain ⟨spring_, rfl⟩ : ∃ q, q = s := ⟨_, rfl⟩
            obtain ⟨g_spring_, y_again_, y_at_, y_hands_, y_these_, y_begun_, rfl, z, d_spring_⟩ := hI
            replace d_handed_ := D.mo d_handed_ e
            replace d_web_ := D.mo d_web_ e
            have es150 := es94.trans e
            refine y_ret ?_
            refine y_op ?_
            refine y_var rfl ?_
            refine y_var rfl ?_
            refine y_eqD (D.mo d_handed_ z.le) (D.mo d_web_ z.le) hw.1 ?_
            replace hw := (run_gd hw).2
            replace z : Zs amb _ _ := z.go [g_spring_] amb []
            exact (run_ret hw) _ _ _ es150 z (Dq.bl _)
end
def spLaw (K : PySem.W.Frag) : Sp := fun vs H Q _ => ∃ (a : Addr) (ns : List Int), vs = [.ref a] ∧ SqL K H a (ns.map V.int) ∧ ns.length ≤ 63 ∧ ∀ H', Q (.bl true) H'
theorem all_mk {l : PySem.W.OpenLaw} {w : World} {K : PySem.W.Frag} {h : Heap} {mg : Str → Option Value} {fa : Addr} (X : K.In h) (G : h.Ns mainGlobals mg) (hfa : mg "law" = some (.ref fa))
    {f1 : Addr} {od1 an1 : Option Addr} {sl1 : Array (Option Value)} {oc1 kV1 dc1 pm1 cd1 ct1 : Value}
    (a1 : PySem.W.nsIn K mainGlobals "names" = some (some (.ref f1)))
    (l1 : K.lookup f1 = some ⟨oc1, od1, .func (PySem.W.fnOf "names" "names" (defArgs s_names) (defBody s_names) (defScope s_names) .none kV1 dc1 pm1 an1 cd1 ct1), sl1⟩)
    (c1 : PySem.W.codeIn K cd1 "names" = true) (k1 : PySem.W.keepIn K (.ref f1) = true)
    {f2 : Addr} {od2 an2 : Option Addr} {sl2 : Array (Option Value)} {oc2 kV2 dc2 pm2 cd2 ct2 : Value}
    (a2 : PySem.W.nsIn K mainGlobals "places_of" = some (some (.ref f2)))
    (l2 : K.lookup f2 = some ⟨oc2, od2, .func (PySem.W.fnOf "places_of" "places_of" (defArgs s_places_of) (defBody s_places_of) (defScope s_places_of) .none kV2 dc2 pm2 an2 cd2 ct2), sl2⟩)
    (c2 : PySem.W.codeIn K cd2 "places_of" = true) (k2 : PySem.W.keepIn K (.ref f2) = true)
    {f3 : Addr} {od3 an3 : Option Addr} {sl3 : Array (Option Value)} {oc3 kV3 dc3 pm3 cd3 ct3 : Value}
    (a3 : PySem.W.nsIn K mainGlobals "touches_meet" = some (some (.ref f3)))
    (l3 : K.lookup f3 = some ⟨oc3, od3, .func (PySem.W.fnOf "touches_meet" "touches_meet" (defArgs s_touches_meet) (defBody s_touches_meet) (defScope s_touches_meet) .none kV3 dc3 pm3 an3 cd3 ct3), sl3⟩)
    (c3 : PySem.W.codeIn K cd3 "touches_meet" = true) (k3 : PySem.W.keepIn K (.ref f3) = true)
    {f4 : Addr} {od4 an4 : Option Addr} {sl4 : Array (Option Value)} {oc4 kV4 dc4 pm4 cd4 ct4 : Value}
    (a4 : PySem.W.nsIn K mainGlobals "ends_of" = some (some (.ref f4)))
    (l4 : K.lookup f4 = some ⟨oc4, od4, .func (PySem.W.fnOf "ends_of" "ends_of" (defArgs s_ends_of) (defBody s_ends_of) (defScope s_ends_of) .none kV4 dc4 pm4 an4 cd4 ct4), sl4⟩)
    (c4 : PySem.W.codeIn K cd4 "ends_of" = true) (k4 : PySem.W.keepIn K (.ref f4) = true)
    {f5 : Addr} {od5 an5 : Option Addr} {sl5 : Array (Option Value)} {oc5 kV5 dc5 pm5 cd5 ct5 : Value}
    (a5 : PySem.W.nsIn K mainGlobals "is_want" = some (some (.ref f5)))
    (l5 : K.lookup f5 = some ⟨oc5, od5, .func (PySem.W.fnOf "is_want" "is_want" (defArgs s_is_want) (defBody s_is_want) (defScope s_is_want) .none kV5 dc5 pm5 an5 cd5 ct5), sl5⟩)
    (c5 : PySem.W.codeIn K cd5 "is_want" = true) (k5 : PySem.W.keepIn K (.ref f5) = true)
    {f6 : Addr} {od6 an6 : Option Addr} {sl6 : Array (Option Value)} {oc6 kV6 dc6 pm6 cd6 ct6 : Value}
    (a6 : PySem.W.nsIn K mainGlobals "meets_want" = some (some (.ref f6)))
    (l6 : K.lookup f6 = some ⟨oc6, od6, .func (PySem.W.fnOf "meets_want" "meets_want" (defArgs s_meets_want) (defBody s_meets_want) (defScope s_meets_want) .none kV6 dc6 pm6 an6 cd6 ct6), sl6⟩)
    (c6 : PySem.W.codeIn K cd6 "meets_want" = true) (k6 : PySem.W.keepIn K (.ref f6) = true)
    {f7 : Addr} {od7 an7 : Option Addr} {sl7 : Array (Option Value)} {oc7 kV7 dc7 pm7 cd7 ct7 : Value}
    (a7 : PySem.W.nsIn K mainGlobals "found_between" = some (some (.ref f7)))
    (l7 : K.lookup f7 = some ⟨oc7, od7, .func (PySem.W.fnOf "found_between" "found_between" (defArgs s_found_between) (defBody s_found_between) (defScope s_found_between) .none kV7 dc7 pm7 an7 cd7 ct7), sl7⟩)
    (c7 : PySem.W.codeIn K cd7 "found_between" = true) (k7 : PySem.W.keepIn K (.ref f7) = true)
    {f8 : Addr} {od8 an8 : Option Addr} {sl8 : Array (Option Value)} {oc8 kV8 dc8 pm8 cd8 ct8 : Value}
    (a8 : PySem.W.nsIn K mainGlobals "all_found" = some (some (.ref f8)))
    (l8 : K.lookup f8 = some ⟨oc8, od8, .func (PySem.W.fnOf "all_found" "all_found" (defArgs s_all_found) (defBody s_all_found) (defScope s_all_found) .none kV8 dc8 pm8 an8 cd8 ct8), sl8⟩)
    (c8 : PySem.W.codeIn K cd8 "all_found" = true) (k8 : PySem.W.keepIn K (.ref f8) = true)
    {f9 : Addr} {od9 an9 : Option Addr} {sl9 : Array (Option Value)} {oc9 kV9 dc9 pm9 cd9 ct9 : Value}
    (a9 : PySem.W.nsIn K mainGlobals "strict_notes" = some (some (.ref f9)))
    (l9 : K.lookup f9 = some ⟨oc9, od9, .func (PySem.W.fnOf "strict_notes" "strict_notes" (defArgs s_strict_notes) (defBody s_strict_notes) (defScope s_strict_notes) .none kV9 dc9 pm9 an9 cd9 ct9), sl9⟩)
    (c9 : PySem.W.codeIn K cd9 "strict_notes" = true) (k9 : PySem.W.keepIn K (.ref f9) = true)
    {f10 : Addr} {od10 an10 : Option Addr} {sl10 : Array (Option Value)} {oc10 kV10 dc10 pm10 cd10 ct10 : Value}
    (a10 : PySem.W.nsIn K mainGlobals "wants_apart" = some (some (.ref f10)))
    (l10 : K.lookup f10 = some ⟨oc10, od10, .func (PySem.W.fnOf "wants_apart" "wants_apart" (defArgs s_wants_apart) (defBody s_wants_apart) (defScope s_wants_apart) .none kV10 dc10 pm10 an10 cd10 ct10), sl10⟩)
    (c10 : PySem.W.codeIn K cd10 "wants_apart" = true) (k10 : PySem.W.keepIn K (.ref f10) = true)
    {f11 : Addr} {od11 an11 : Option Addr} {sl11 : Array (Option Value)} {oc11 kV11 dc11 pm11 cd11 ct11 : Value}
    (a11 : PySem.W.nsIn K mainGlobals "are_apart" = some (some (.ref f11)))
    (l11 : K.lookup f11 = some ⟨oc11, od11, .func (PySem.W.fnOf "are_apart" "are_apart" (defArgs s_are_apart) (defBody s_are_apart) (defScope s_are_apart) .none kV11 dc11 pm11 an11 cd11 ct11), sl11⟩)
    (c11 : PySem.W.codeIn K cd11 "are_apart" = true) (k11 : PySem.W.keepIn K (.ref f11) = true)
    {f12 : Addr} {od12 an12 : Option Addr} {sl12 : Array (Option Value)} {oc12 kV12 dc12 pm12 cd12 ct12 : Value}
    (a12 : PySem.W.nsIn K mainGlobals "apart_shows" = some (some (.ref f12)))
    (l12 : K.lookup f12 = some ⟨oc12, od12, .func (PySem.W.fnOf "apart_shows" "apart_shows" (defArgs s_apart_shows) (defBody s_apart_shows) (defScope s_apart_shows) .none kV12 dc12 pm12 an12 cd12 ct12), sl12⟩)
    (c12 : PySem.W.codeIn K cd12 "apart_shows" = true) (k12 : PySem.W.keepIn K (.ref f12) = true)
    {f13 : Addr} {od13 an13 : Option Addr} {sl13 : Array (Option Value)} {oc13 kV13 dc13 pm13 cd13 ct13 : Value}
    (a13 : PySem.W.nsIn K mainGlobals "_law_spring" = some (some (.ref f13)))
    (l13 : K.lookup f13 = some ⟨oc13, od13, .func (PySem.W.fnOf "_law_spring" "_law_spring" (defArgs s_law_spring) (defBody s_law_spring) (defScope s_law_spring) .none kV13 dc13 pm13 an13 cd13 ct13), sl13⟩)
    (c13 : PySem.W.codeIn K cd13 "_law_spring" = true) (k13 : PySem.W.keepIn K (.ref f13) = true)
    {f14 : Addr} {od14 an14 : Option Addr} {sl14 : Array (Option Value)} {oc14 kV14 dc14 pm14 cd14 ct14 : Value}
    (a14 : PySem.W.nsIn K mainGlobals "_law_draw" = some (some (.ref f14)))
    (l14 : K.lookup f14 = some ⟨oc14, od14, .func (PySem.W.fnOf "_law_draw" "_law_draw" (defArgs s_law_draw) (defBody s_law_draw) (defScope s_law_draw) .none kV14 dc14 pm14 an14 cd14 ct14), sl14⟩)
    (c14 : PySem.W.codeIn K cd14 "_law_draw" = true) (k14 : PySem.W.keepIn K (.ref f14) = true)
    {f15 : Addr} {od15 an15 : Option Addr} {sl15 : Array (Option Value)} {oc15 kV15 dc15 pm15 cd15 ct15 : Value}
    (a15 : PySem.W.nsIn K mainGlobals "_law_web" = some (some (.ref f15)))
    (l15 : K.lookup f15 = some ⟨oc15, od15, .func (PySem.W.fnOf "_law_web" "_law_web" (defArgs s_law_web) (defBody s_law_web) (defScope s_law_web) .none kV15 dc15 pm15 an15 cd15 ct15), sl15⟩)
    (c15 : PySem.W.codeIn K cd15 "_law_web" = true) (k15 : PySem.W.keepIn K (.ref f15) = true)
    {f16 : Addr} {od16 an16 : Option Addr} {sl16 : Array (Option Value)} {oc16 kV16 dc16 pm16 cd16 ct16 : Value}
    (a16 : PySem.W.nsIn K mainGlobals "_law_calls" = some (some (.ref f16)))
    (l16 : K.lookup f16 = some ⟨oc16, od16, .func (PySem.W.fnOf "_law_calls" "_law_calls" (defArgs s_law_calls) (defBody s_law_calls) (defScope s_law_calls) .none kV16 dc16 pm16 an16 cd16 ct16), sl16⟩)
    (c16 : PySem.W.codeIn K cd16 "_law_calls" = true) (k16 : PySem.W.keepIn K (.ref f16) = true)
    {f17 : Addr} {od17 an17 : Option Addr} {sl17 : Array (Option Value)} {oc17 kV17 dc17 pm17 cd17 ct17 : Value}
    (a17 : PySem.W.nsIn K mainGlobals "_law_meets" = some (some (.ref f17)))
    (l17 : K.lookup f17 = some ⟨oc17, od17, .func (PySem.W.fnOf "_law_meets" "_law_meets" (defArgs s_law_meets) (defBody s_law_meets) (defScope s_law_meets) .none kV17 dc17 pm17 an17 cd17 ct17), sl17⟩)
    (c17 : PySem.W.codeIn K cd17 "_law_meets" = true) (k17 : PySem.W.keepIn K (.ref f17) = true)
    {f18 : Addr} {od18 an18 : Option Addr} {sl18 : Array (Option Value)} {oc18 kV18 dc18 pm18 cd18 ct18 : Value}
    (a18 : PySem.W.nsIn K mainGlobals "_law_ends" = some (some (.ref f18)))
    (l18 : K.lookup f18 = some ⟨oc18, od18, .func (PySem.W.fnOf "_law_ends" "_law_ends" (defArgs s_law_ends) (defBody s_law_ends) (defScope s_law_ends) .none kV18 dc18 pm18 an18 cd18 ct18), sl18⟩)
    (c18 : PySem.W.codeIn K cd18 "_law_ends" = true) (k18 : PySem.W.keepIn K (.ref f18) = true)
    {f19 : Addr} {od19 an19 : Option Addr} {sl19 : Array (Option Value)} {oc19 kV19 dc19 pm19 cd19 ct19 : Value}
    (a19 : PySem.W.nsIn K mainGlobals "_law_is_want" = some (some (.ref f19)))
    (l19 : K.lookup f19 = some ⟨oc19, od19, .func (PySem.W.fnOf "_law_is_want" "_law_is_want" (defArgs s_law_is_want) (defBody s_law_is_want) (defScope s_law_is_want) .none kV19 dc19 pm19 an19 cd19 ct19), sl19⟩)
    (c19 : PySem.W.codeIn K cd19 "_law_is_want" = true) (k19 : PySem.W.keepIn K (.ref f19) = true)
    {f20 : Addr} {od20 an20 : Option Addr} {sl20 : Array (Option Value)} {oc20 kV20 dc20 pm20 cd20 ct20 : Value}
    (a20 : PySem.W.nsIn K mainGlobals "_law_all_met" = some (some (.ref f20)))
    (l20 : K.lookup f20 = some ⟨oc20, od20, .func (PySem.W.fnOf "_law_all_met" "_law_all_met" (defArgs s_law_all_met) (defBody s_law_all_met) (defScope s_law_all_met) .none kV20 dc20 pm20 an20 cd20 ct20), sl20⟩)
    (c20 : PySem.W.codeIn K cd20 "_law_all_met" = true) (k20 : PySem.W.keepIn K (.ref f20) = true)
    {f21 : Addr} {od21 an21 : Option Addr} {sl21 : Array (Option Value)} {oc21 kV21 dc21 pm21 cd21 ct21 : Value}
    (a21 : PySem.W.nsIn K mainGlobals "_law_counts" = some (some (.ref f21)))
    (l21 : K.lookup f21 = some ⟨oc21, od21, .func (PySem.W.fnOf "_law_counts" "_law_counts" (defArgs s_law_counts) (defBody s_law_counts) (defScope s_law_counts) .none kV21 dc21 pm21 an21 cd21 ct21), sl21⟩)
    (c21 : PySem.W.codeIn K cd21 "_law_counts" = true) (k21 : PySem.W.keepIn K (.ref f21) = true)
    {f22 : Addr} {od22 an22 : Option Addr} {sl22 : Array (Option Value)} {oc22 kV22 dc22 pm22 cd22 ct22 : Value}
    (a22 : PySem.W.nsIn K mainGlobals "_law_fewer" = some (some (.ref f22)))
    (l22 : K.lookup f22 = some ⟨oc22, od22, .func (PySem.W.fnOf "_law_fewer" "_law_fewer" (defArgs s_law_fewer) (defBody s_law_fewer) (defScope s_law_fewer) .none kV22 dc22 pm22 an22 cd22 ct22), sl22⟩)
    (c22 : PySem.W.codeIn K cd22 "_law_fewer" = true) (k22 : PySem.W.keepIn K (.ref f22) = true)
    {f23 : Addr} {od23 an23 : Option Addr} {sl23 : Array (Option Value)} {oc23 kV23 dc23 pm23 cd23 ct23 : Value}
    (a23 : PySem.W.nsIn K mainGlobals "_law_one_unmet" = some (some (.ref f23)))
    (l23 : K.lookup f23 = some ⟨oc23, od23, .func (PySem.W.fnOf "_law_one_unmet" "_law_one_unmet" (defArgs s_law_one_unmet) (defBody s_law_one_unmet) (defScope s_law_one_unmet) .none kV23 dc23 pm23 an23 cd23 ct23), sl23⟩)
    (c23 : PySem.W.codeIn K cd23 "_law_one_unmet" = true) (k23 : PySem.W.keepIn K (.ref f23) = true)
    {f24 : Addr} {od24 an24 : Option Addr} {sl24 : Array (Option Value)} {oc24 kV24 dc24 pm24 cd24 ct24 : Value}
    (a24 : PySem.W.nsIn K mainGlobals "law" = some (some (.ref f24)))
    (l24 : K.lookup f24 = some ⟨oc24, od24, .func (PySem.W.fnOf "law" "law" (defArgs s_law) (defBody s_law) (defScope s_law) .none kV24 dc24 pm24 an24 cd24 ct24), sl24⟩)
    (c24 : PySem.W.codeIn K cd24 "law" = true) (k24 : PySem.W.keepIn K (.ref f24) = true)
    (z_len : PySem.W.nsIn K mainGlobals "len" = some none)
    (z_range : PySem.W.nsIn K mainGlobals "range" = some none)
    (z_max : PySem.W.nsIn K mainGlobals "max" = some none)
    (z_sorted : PySem.W.nsIn K mainGlobals "sorted" = some none)
    (z_zip : PySem.W.nsIn K mainGlobals "zip" = some none)
    (z_all : PySem.W.nsIn K mainGlobals "all" = some none)
    (z_abs : PySem.W.nsIn K mainGlobals "abs" = some none)
    (z_int : PySem.W.nsIn K mainGlobals "int" = some none)
    (z_any : PySem.W.nsIn K mainGlobals "any" = some none)
    (z_list : PySem.W.nsIn K mainGlobals "list" = some none)
    (z_isinstance : PySem.W.nsIn K mainGlobals "isinstance" = some none)
    (z_set : PySem.W.nsIn K mainGlobals "set" = some none)
    (z_min : PySem.W.nsIn K mainGlobals "min" = some none)
    {tk_HANDS : Tok} (g_HANDS : PySem.W.nsIn K mainGlobals "HANDS" = some (some (.int 8 tk_HANDS))) :
    ∃ fd : FuncData, (∀ (s : Shared) (v : Value), BindsTo s fd ⟨[v], []⟩ [("script", v)]) ∧ ∀ base : Heap, K.In base → base.Ns mainGlobals mg → FnOk l.prog w K mg base CX0 5 fa fd ["script"] (spLaw K) := by
  have e := hfa.symm.trans (PySem.W.mg_of X G a24)
  cases e
  refine ⟨PySem.W.fnOf "law" "law" (defArgs s_law) (defBody s_law) (defScope s_law) .none kV24 dc24 pm24 an24 cd24 ct24, fun s v => .of_eq rfl, fun base _ _ => ?_⟩
  have F1 := fun_mk (st := s_names) l1 c1 k1
  have b1 := F1.binds (ps := ["web"]) fun _ _ _ _ _ _ us hl => match us, hl with | [_], _ => rfl
  have F2 := fun_mk (st := s_places_of) l2 c2 k2
  have b2 := F2.binds (ps := ["web"]) fun _ _ _ _ _ _ us hl => match us, hl with | [_], _ => rfl
  have F3 := fun_mk (st := s_touches_meet) l3 c3 k3
  have b3 := F3.binds (ps := ["one", "other"]) fun _ _ _ _ _ _ us hl => match us, hl with | [_, _], _ => rfl
  have F4 := fun_mk (st := s_ends_of) l4 c4 k4
  have b4 := F4.binds (ps := ["places", "note"]) fun _ _ _ _ _ _ us hl => match us, hl with | [_, _], _ => rfl
  have F5 := fun_mk (st := s_is_want) l5 c5 k5
  have b5 := F5.binds (ps := ["web", "places", "want"]) fun _ _ _ _ _ _ us hl => match us, hl with | [_, _, _], _ => rfl
  have F6 := fun_mk (st := s_meets_want) l6 c6 k6
  have b6 := F6.binds (ps := ["web", "note", "want"]) fun _ _ _ _ _ _ us hl => match us, hl with | [_, _, _], _ => rfl
  have F7 := fun_mk (st := s_found_between) l7 c7 k7
  have b7 := F7.binds (ps := ["web", "called", "hand", "other"]) fun _ _ _ _ _ _ us hl => match us, hl with | [_, _, _, _], _ => rfl
  have F8 := fun_mk (st := s_all_found) l8 c8 k8
  have b8 := F8.binds (ps := ["web"]) fun _ _ _ _ _ _ us hl => match us, hl with | [_], _ => rfl
  have F9 := fun_mk (st := s_strict_notes) l9 c9 k9
  have b9 := F9.binds (ps := ["web"]) fun _ _ _ _ _ _ us hl => match us, hl with | [_], _ => rfl
  have F10 := fun_mk (st := s_wants_apart) l10 c10 k10
  have b10 := F10.binds (ps := ["web"]) fun _ _ _ _ _ _ us hl => match us, hl with | [_], _ => rfl
  have F11 := fun_mk (st := s_are_apart) l11 c11 k11
  have b11 := F11.binds (ps := ["reaches"]) fun _ _ _ _ _ _ us hl => match us, hl with | [_], _ => rfl
  have F12 := fun_mk (st := s_apart_shows) l12 c12 k12
  have b12 := F12.binds (ps := ["web", "wants"]) fun _ _ _ _ _ _ us hl => match us, hl with | [_, _], _ => rfl
  have F13 := fun_mk (st := s_law_spring) l13 c13 k13
  have b13 := F13.binds (ps := ["script"]) fun _ _ _ _ _ _ us hl => match us, hl with | [_], _ => rfl
  have F14 := fun_mk (st := s_law_draw) l14 c14 k14
  have b14 := F14.binds (ps := ["spring", "many"]) fun _ _ _ _ _ _ us hl => match us, hl with | [_, _], _ => rfl
  have F15 := fun_mk (st := s_law_web) l15 c15 k15
  have b15 := F15.binds (ps := ["spring", "most"]) fun _ _ _ _ _ _ us hl => match us, hl with | [_, _], _ => rfl
  have F16 := fun_mk (st := s_law_calls) l16 c16 k16
  have b16 := F16.binds (ps := ["web"]) fun _ _ _ _ _ _ us hl => match us, hl with | [_], _ => rfl
  have F17 := fun_mk (st := s_law_meets) l17 c17 k17
  have b17 := F17.binds (ps := ["one", "other"]) fun _ _ _ _ _ _ us hl => match us, hl with | [_, _], _ => rfl
  have F18 := fun_mk (st := s_law_ends) l18 c18 k18
  have b18 := F18.binds (ps := ["calls", "note"]) fun _ _ _ _ _ _ us hl => match us, hl with | [_, _], _ => rfl
  have F19 := fun_mk (st := s_law_is_want) l19 c19 k19
  have b19 := F19.binds (ps := ["web", "calls", "note"]) fun _ _ _ _ _ _ us hl => match us, hl with | [_, _, _], _ => rfl
  have F20 := fun_mk (st := s_law_all_met) l20 c20 k20
  have b20 := F20.binds (ps := ["web", "calls", "told"]) fun _ _ _ _ _ _ us hl => match us, hl with | [_, _, _], _ => rfl
  have F21 := fun_mk (st := s_law_counts) l21 c21 k21
  have b21 := F21.binds (ps := ["some"]) fun _ _ _ _ _ _ us hl => match us, hl with | [_], _ => rfl
  have F22 := fun_mk (st := s_law_fewer) l22 c22 k22
  have b22 := F22.binds (ps := ["spring", "calls", "hands", "many"]) fun _ _ _ _ _ _ us hl => match us, hl with | [_, _, _, _], _ => rfl
  have F23 := fun_mk (st := s_law_one_unmet) l23 c23 k23
  have b23 := F23.binds (ps := ["web", "wants", "some"]) fun _ _ _ _ _ _ us hl => match us, hl with | [_, _, _], _ => rfl
  have F24 := fun_mk (st := s_law) l24 c24 k24
  have b24 := F24.binds (ps := ["script"]) fun _ _ _ _ _ _ us hl => match us, hl with | [_], _ => rfl
  have o1 := ok_names (cl := (fun _ => 0)) (P := l.prog) (w := w) (mg := mg) (base := base) F1 (PySem.W.mg_of X G g_HANDS)
  have c_names : Cal l.prog w K mg base CX0 "names" ["web"] 1 (sp_names K (fun _ => 0)) f1 _ := ⟨o1, PySem.W.mg_of X G a1, k1, b1⟩
  have o2 := ok_places_of (cl := (fun _ => 0)) (P := l.prog) (w := w) (mg := mg) (base := base) F2 c_names (PySem.W.mg_none_of X G z_len) (PySem.W.mg_none_of X G z_range)
  have c_places_of : Cal l.prog w K mg base CX0 "places_of" ["web"] 2 (sp_places_of K (fun _ => 0)) f2 _ := ⟨o2, PySem.W.mg_of X G a2, k2, b2⟩
  have o3 := ok_touches_meet (cl := (fun _ => 0)) (P := l.prog) (w := w) (mg := mg) (base := base) F3 
  have c_touches_meet : Cal l.prog w K mg base CX0 "touches_meet" ["one", "other"] 1 (sp_touches_meet K (fun _ => 0)) f3 _ := ⟨o3, PySem.W.mg_of X G a3, k3, b3⟩
  have o4 := ok_ends_of (cl := (fun _ => 0)) (P := l.prog) (w := w) (mg := mg) (base := base) F4 
  have c_ends_of : Cal l.prog w K mg base CX0 "ends_of" ["places", "note"] 1 (sp_ends_of K (fun _ => 0)) f4 _ := ⟨o4, PySem.W.mg_of X G a4, k4, b4⟩
  have o5 := ok_is_want (cl := (fun _ => 0)) (P := l.prog) (w := w) (mg := mg) (base := base) F5 c_touches_meet
  have c_is_want : Cal l.prog w K mg base CX0 "is_want" ["web", "places", "want"] 2 (sp_is_want K (fun _ => 0)) f5 _ := ⟨o5, PySem.W.mg_of X G a5, k5, b5⟩
  have o6 := ok_meets_want (cl := (fun _ => 0)) (P := l.prog) (w := w) (mg := mg) (base := base) F6 c_places_of c_ends_of c_is_want
  have c_meets_want : Cal l.prog w K mg base CX0 "meets_want" ["web", "note", "want"] 3 (sp_meets_want K (fun _ => 0)) f6 _ := ⟨o6, PySem.W.mg_of X G a6, k6, b6⟩
  have o7 := ok_found_between (cl := (fun _ => 0)) (P := l.prog) (w := w) (mg := mg) (base := base) F7 c_touches_meet (PySem.W.mg_none_of X G z_len) (PySem.W.mg_none_of X G z_range) (PySem.W.mg_none_of X G z_max)
  have c_found_between : Cal l.prog w K mg base CX0 "found_between" ["web", "called", "hand", "other"] 2 (sp_found_between K (fun _ => 0)) f7 _ := ⟨o7, PySem.W.mg_of X G a7, k7, b7⟩
  have o8 := ok_all_found (cl := (fun _ => 0)) (P := l.prog) (w := w) (mg := mg) (base := base) F8 c_names c_found_between (PySem.W.mg_none_of X G z_range) (PySem.W.mg_of X G g_HANDS)
  have c_all_found : Cal l.prog w K mg base CX0 "all_found" ["web"] 3 (sp_all_found K (fun _ => 0)) f8 _ := ⟨o8, PySem.W.mg_of X G a8, k8, b8⟩
  have o9 := ok_strict_notes (cl := (fun _ => 0)) (P := l.prog) (w := w) (mg := mg) (base := base) F9 c_all_found (PySem.W.mg_none_of X G z_sorted)
  have c_strict_notes : Cal l.prog w K mg base CX0 "strict_notes" ["web"] 4 (sp_strict_notes K (fun _ => 0)) f9 _ := ⟨o9, PySem.W.mg_of X G a9, k9, b9⟩
  have o10 := ok_wants_apart (cl := (fun _ => 0)) (P := l.prog) (w := w) (mg := mg) (base := base) F10 c_all_found
  have c_wants_apart : Cal l.prog w K mg base CX0 "wants_apart" ["web"] 4 (sp_wants_apart K (fun _ => 0)) f10 _ := ⟨o10, PySem.W.mg_of X G a10, k10, b10⟩
  have o11 := ok_are_apart (cl := (fun _ => 0)) (P := l.prog) (w := w) (mg := mg) (base := base) F11 (PySem.W.mg_none_of X G z_sorted) (PySem.W.mg_none_of X G z_zip) (PySem.W.mg_none_of X G z_all)
  have c_are_apart : Cal l.prog w K mg base CX0 "are_apart" ["reaches"] 1 (sp_are_apart K (fun _ => 0)) f11 _ := ⟨o11, PySem.W.mg_of X G a11, k11, b11⟩
  have o12 := ok_apart_shows (cl := (fun _ => 0)) (P := l.prog) (w := w) (mg := mg) (base := base) F12 c_places_of c_is_want c_are_apart (PySem.W.mg_none_of X G z_all)
  have c_apart_shows : Cal l.prog w K mg base CX0 "apart_shows" ["web", "wants"] 3 (sp_apart_shows K (fun _ => 0)) f12 _ := ⟨o12, PySem.W.mg_of X G a12, k12, b12⟩
  have o13 := ok_law_spring (cl := (fun _ => 0)) (P := l.prog) (w := w) (mg := mg) (base := base) F13 (PySem.W.mg_none_of X G z_abs)
  have c_law_spring : Cal l.prog w K mg base CX0 "_law_spring" ["script"] 1 (sp_law_spring K (fun _ => 0)) f13 _ := ⟨o13, PySem.W.mg_of X G a13, k13, b13⟩
  have o14 := ok_law_draw (cl := (fun _ => 0)) (P := l.prog) (w := w) (mg := mg) (base := base) F14 
  have c_law_draw : Cal l.prog w K mg base CX0 "_law_draw" ["spring", "many"] 1 (sp_law_draw K (fun _ => 0)) f14 _ := ⟨o14, PySem.W.mg_of X G a14, k14, b14⟩
  have o15 := ok_law_web (cl := (fun _ => 0)) (P := l.prog) (w := w) (mg := mg) (base := base) F15 c_law_draw (PySem.W.mg_none_of X G z_int) (PySem.W.mg_none_of X G z_range) (PySem.W.mg_none_of X G z_len)
  have c_law_web : Cal l.prog w K mg base CX0 "_law_web" ["spring", "most"] 2 (sp_law_web K (fun _ => 0)) f15 _ := ⟨o15, PySem.W.mg_of X G a15, k15, b15⟩
  have o16 := ok_law_calls (cl := (fun _ => 0)) (P := l.prog) (w := w) (mg := mg) (base := base) F16 
  have c_law_calls : Cal l.prog w K mg base CX0 "_law_calls" ["web"] 1 (sp_law_calls K (fun _ => 0)) f16 _ := ⟨o16, PySem.W.mg_of X G a16, k16, b16⟩
  have o17 := ok_law_meets (cl := (fun _ => 0)) (P := l.prog) (w := w) (mg := mg) (base := base) F17 
  have c_law_meets : Cal l.prog w K mg base CX0 "_law_meets" ["one", "other"] 1 (sp_law_meets K (fun _ => 0)) f17 _ := ⟨o17, PySem.W.mg_of X G a17, k17, b17⟩
  have o18 := ok_law_ends (cl := (fun _ => 0)) (P := l.prog) (w := w) (mg := mg) (base := base) F18 
  have c_law_ends : Cal l.prog w K mg base CX0 "_law_ends" ["calls", "note"] 1 (sp_law_ends K (fun _ => 0)) f18 _ := ⟨o18, PySem.W.mg_of X G a18, k18, b18⟩
  have o19 := ok_law_is_want (cl := (fun _ => 0)) (P := l.prog) (w := w) (mg := mg) (base := base) F19 c_law_ends c_law_meets
  have c_law_is_want : Cal l.prog w K mg base CX0 "_law_is_want" ["web", "calls", "note"] 2 (sp_law_is_want K (fun _ => 0)) f19 _ := ⟨o19, PySem.W.mg_of X G a19, k19, b19⟩
  have o20 := ok_law_all_met (cl := (fun _ => 0)) (P := l.prog) (w := w) (mg := mg) (base := base) F20 c_law_ends c_law_meets (PySem.W.mg_none_of X G z_len) (PySem.W.mg_none_of X G z_range)
  have c_law_all_met : Cal l.prog w K mg base CX0 "_law_all_met" ["web", "calls", "told"] 2 (sp_law_all_met K (fun _ => 0)) f20 _ := ⟨o20, PySem.W.mg_of X G a20, k20, b20⟩
  have o21 := ok_law_counts (cl := (fun _ => 0)) (P := l.prog) (w := w) (mg := mg) (base := base) F21 
  have c_law_counts : Cal l.prog w K mg base CX0 "_law_counts" ["some"] 1 (sp_law_counts K (fun _ => 0)) f21 _ := ⟨o21, PySem.W.mg_of X G a21, k21, b21⟩
  have o22 := ok_law_fewer (cl := (fun _ => 0)) (P := l.prog) (w := w) (mg := mg) (base := base) F22 c_law_draw (PySem.W.mg_none_of X G z_len) (PySem.W.mg_none_of X G z_range)
  have c_law_fewer : Cal l.prog w K mg base CX0 "_law_fewer" ["spring", "calls", "hands", "many"] 2 (sp_law_fewer K (fun _ => 0)) f22 _ := ⟨o22, PySem.W.mg_of X G a22, k22, b22⟩
  have o23 := ok_law_one_unmet (cl := (fun _ => 0)) (P := l.prog) (w := w) (mg := mg) (base := base) F23 c_meets_want (PySem.W.mg_none_of X G z_any)
  have c_law_one_unmet : Cal l.prog w K mg base CX0 "_law_one_unmet" ["web", "wants", "some"] 4 (sp_law_one_unmet K (fun _ => 0)) f23 _ := ⟨o23, PySem.W.mg_of X G a23, k23, b23⟩
  have o24 := ok_law (cl := (fun _ => 0)) (P := l.prog) (w := w) (mg := mg) (base := base) F24 c_law_spring c_law_web c_law_calls c_strict_notes c_wants_apart c_law_ends c_law_all_met c_law_is_want c_law_counts c_apart_shows c_law_draw c_law_one_unmet c_law_fewer (PySem.W.mg_none_of X G z_list) (PySem.W.mg_none_of X G z_isinstance) (PySem.W.mg_none_of X G z_all) (PySem.W.mg_none_of X G z_len) (PySem.W.mg_none_of X G z_set) (PySem.W.mg_none_of X G z_min) (PySem.W.mg_none_of X G z_range)
  refine FnOk.imp o24 fun vs H Q E hq => ?_
  obtain ⟨a, ns, rfl, hS, hl, q⟩ := hq
  refine ⟨[], H, .ref a, ns, rfl, ⟨Same.refl _, (fun r hr => nomatch hr), List.nodup_nil, (fun r hr => nomatch hr)⟩, ⟨a, _, rfl, ints_dl, .inl hS⟩, run_mono' (law_true hl) fun r hr v H' Ho' e z d => ?_⟩
  subst hr
  rw [d_bool d]
  exact q H'
end M
open PySem PySem.W PyProof.Rows
set_option maxHeartbeats 0 in
theorem PySem.Challenge.cw_fewnotes_k33_whole_no_fewer_strict_notes_holds : PySem.Challenge.rw_fewnotes_k33_whole_no_fewer_strict_notes.Holds := by
  w_on; o_law; k_head; (case hw => w_witness2)
  k_fill
  refine L2.walk_of (l := PySem.Challenge.rw_fewnotes_k33_whole_no_fewer_strict_notes) (n := 63) (k := 5) (x := "script") (CX := fun _ => L2.CX0) (sp := fun w => M.spLaw _) rfl (by decide) rfl ⟨rfl, by decide, by decide⟩ (fun w h Y => PySem.W.kIn_of Y) ?F (fun _ _ a ns hl _ hS => ⟨a, ns, rfl, hS, hl, fun _ => rfl⟩) (fun _ _ _ _ _ h => h)
  case F =>
    intro w mg fa h KX G hmg
    refine' M.all_mk KX G hmg ?a1 ?l1 ?c1 ?k1 ?a2 ?l2 ?c2 ?k2 ?a3 ?l3 ?c3 ?k3 ?a4 ?l4 ?c4 ?k4 ?a5 ?l5 ?c5 ?k5 ?a6 ?l6 ?c6 ?k6 ?a7 ?l7 ?c7 ?k7 ?a8 ?l8 ?c8 ?k8 ?a9 ?l9 ?c9 ?k9 ?a10 ?l10 ?c10 ?k10 ?a11 ?l11 ?c11 ?k11 ?a12 ?l12 ?c12 ?k12 ?a13 ?l13 ?c13 ?k13 ?a14 ?l14 ?c14 ?k14 ?a15 ?l15 ?c15 ?k15 ?a16 ?l16 ?c16 ?k16 ?a17 ?l17 ?c17 ?k17 ?a18 ?l18 ?c18 ?k18 ?a19 ?l19 ?c19 ?k19 ?a20 ?l20 ?c20 ?k20 ?a21 ?l21 ?c21 ?k21 ?a22 ?l22 ?c22 ?k22 ?a23 ?l23 ?c23 ?k23 ?a24 ?l24 ?c24 ?k24 ?z_len ?z_range ?z_max ?z_sorted ?z_zip ?z_all ?z_abs ?z_int ?z_any ?z_list ?z_isinstance ?z_set ?z_min ?g_HANDS
    (case a1 => k_is); (case l1 => k_is); (case c1 => k_is); (case k1 => k_is); (case a2 => k_is); (case l2 => k_is); (case c2 => k_is); (case k2 => k_is); (case a3 => k_is); (case l3 => k_is); (case c3 => k_is); (case k3 => k_is); (case a4 => k_is); (case l4 => k_is); (case c4 => k_is); (case k4 => k_is); (case a5 => k_is); (case l5 => k_is); (case c5 => k_is); (case k5 => k_is); (case a6 => k_is); (case l6 => k_is); (case c6 => k_is); (case k6 => k_is); (case a7 => k_is); (case l7 => k_is); (case c7 => k_is); (case k7 => k_is); (case a8 => k_is); (case l8 => k_is); (case c8 => k_is); (case k8 => k_is); (case a9 => k_is); (case l9 => k_is); (case c9 => k_is); (case k9 => k_is); (case a10 => k_is); (case l10 => k_is); (case c10 => k_is); (case k10 => k_is); (case a11 => k_is); (case l11 => k_is); (case c11 => k_is); (case k11 => k_is); (case a12 => k_is); (case l12 => k_is); (case c12 => k_is); (case k12 => k_is); (case a13 => k_is); (case l13 => k_is); (case c13 => k_is); (case k13 => k_is); (case a14 => k_is); (case l14 => k_is); (case c14 => k_is); (case k14 => k_is); (case a15 => k_is); (case l15 => k_is); (case c15 => k_is); (case k15 => k_is); (case a16 => k_is); (case l16 => k_is); (case c16 => k_is); (case k16 => k_is); (case a17 => k_is); (case l17 => k_is); (case c17 => k_is); (case k17 => k_is); (case a18 => k_is); (case l18 => k_is); (case c18 => k_is); (case k18 => k_is); (case a19 => k_is); (case l19 => k_is); (case c19 => k_is); (case k19 => k_is); (case a20 => k_is); (case l20 => k_is); (case c20 => k_is); (case k20 => k_is); (case a21 => k_is); (case l21 => k_is); (case c21 => k_is); (case k21 => k_is); (case a22 => k_is); (case l22 => k_is); (case c22 => k_is); (case k22 => k_is); (case a23 => k_is); (case l23 => k_is); (case c23 => k_is); (case k23 => k_is); (case a24 => k_is); (case l24 => k_is); (case c24 => k_is); (case k24 => k_is); (case z_len => k_is); (case z_range => k_is); (case z_max => k_is); (case z_sorted => k_is); (case z_zip => k_is); (case z_all => k_is); (case z_abs => k_is); (case z_int => k_is); (case z_any => k_is); (case z_list => k_is); (case z_isinstance => k_is); (case z_set => k_is); (case z_min => k_is); (case g_HANDS => k_is)

