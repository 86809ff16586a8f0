import PyProof.Rows.All
import Wide.All
import OpenK.AllK
import Wide.FinOn
import HandS.ForMost
import HandS.ForExc
import HandS.Wide
import HandS.IsInst
import HandS.Deep
import HandS.SortKw
import HandS.SortRule
import HandS.TupSets
import HandS.ExcIs
import HandS.TryMany
import HandS.StrMore
import HandS.FStr
import HandS.Strs
import HandS.SetFor
import HandS.ListItems
import HandS.SetKeys
import HandS.TupAny
import HandS.Defaults
import KE.DatumOrd
import HandS.SortInts
import HandS.Conv
import HandS.More
import KE.KDictKeyed
import HandS.Style
import HandS.Iter
import HandS.NoneIn
import OpenK.KOps
import KE.KCallOwn
import HandS.SlotsOwn
import HandS.RaiseMore
import PyProof.InstNe
import HandS.ExcOwn
import HandS.Replace
import HandS.MakeKw
import HandS.Zip
import KE.DataMinKey
import KE.KDictDisplayH
import KE.DataFind
import PyProof.SeqI3
import PyProof.ListRange
import HandS.RevRange
import PyProof.ZipIter
import HandS.DictTup
import HandS.TupLen
import KE.GoesMore
import HandS.WrittenGet
import KE.GoesEnumKw
import HandS.ExcBuiltin
import HandS.Codes
import PySem.Challenge.RW_fewnotes_k02_rows_read
set_option Elab.async false
set_option linter.all false
set_option maxRecDepth 100000
set_option maxHeartbeats 4000000
namespace Z
open PySem PySem.Spec PyProof.Rows L2
/-! ### computations by what they promise -/
structure Er where
  cls : Nat
  arg : PyData := .none

structure W (α : Type) where
  go : (α → Prop) → Prop
  mono0 : ∀ (Φ Φ' : α → Prop), (∀ a, Φ a → Φ' a) → go Φ → go Φ'
/-- no projection: two runs are compared by their parts first -/
def W.run {α : Type} (c : W α) (Φ : α → Prop) : Prop := c.go Φ
theorem W.mono {α : Type} (c : W α) (Φ Φ' : α → Prop) (h : ∀ a, Φ a → Φ' a) (q : c.run Φ) : c.run Φ' := c.mono0 Φ Φ' h q

namespace W
variable {α β γ : Type}
def ret (a : α) : W α := ⟨fun Φ => Φ a, fun _ _ h q => h a q⟩
def bind (c : W α) (f : α → W β) : W β := ⟨fun Φ => c.run (fun a => (f a).run Φ), fun Φ Φ' h q => c.mono _ _ (fun a z => (f a).mono _ _ h z) q⟩
def guard (p : Prop) (c : W α) : W α := ⟨fun Φ => p ∧ c.run Φ, fun _ _ h q => ⟨q.1, c.mono _ _ h q.2⟩⟩
def ite (b : Bool) (x y : W α) : W α := ⟨fun Φ => (b = true → x.run Φ) ∧ (b = false → y.run Φ), fun _ _ h q => ⟨fun e => x.mono _ _ h (q.1 e), fun e => y.mono _ _ h (q.2 e)⟩⟩
def opt (o : Option α) : W α := ⟨fun Φ => ∃ a, o = some a ∧ Φ a, fun _ _ h ⟨a, e, q⟩ => ⟨a, e, h a q⟩⟩
def bad : W α := ⟨fun _ => False, fun _ _ _ q => q⟩
end W

/-- an answer, or an error -/
inductive Ex (α : Type) where
  | ok (a : α) | er (e : Er)
/-- how a loop's turn ends -/
inductive Ctl (ρ S : Type) where
  | nx (s : S) | bk (s : S) | rt (r : ρ)

def CtlP {ρ S : Type} (N B : S → Prop) (Φ : ρ → Prop) : Ctl ρ S → Prop
  | .nx s => N s
  | .bk s => B s
  | .rt r => Φ r
theorem ctl_nx {ρ S : Type} {N B : S → Prop} {Φ : ρ → Prop} {s : S} (h : CtlP N B Φ (.nx s)) : N s := h
theorem ctl_bk {ρ S : Type} {N B : S → Prop} {Φ : ρ → Prop} {s : S} (h : CtlP N B Φ (.bk s)) : B s := h
theorem ctl_rt {ρ S : Type} {N B : S → Prop} {Φ : ρ → Prop} {r : ρ} (h : CtlP N B Φ (.rt r)) : Φ r := h
namespace W
variable {α β γ ρ S : Type}
def forL : List α → S → (α → S → W S) → W S
  | [], s, _ => ret s
  | x :: xs, s, f => bind (f x s) fun s' => forL xs s' f
/-- a loop that may be left -/
def forC : List α → S → (α → S → W (Ctl ρ S)) → W (Ctl ρ S)
  | [], s, _ => ret (.nx s)
  | x :: xs, s, f => bind (f x s) fun c => match c with
    | .nx s' => forC xs s' f
    | .bk s' => ret (.nx s')
    | .rt r => ret (.rt r)
def bind2 {α β γ : Type} (c : W (α × β)) (f : α → β → W γ) : W γ := ⟨fun Φ => c.run fun r => (f r.1 r.2).run Φ, fun Φ Φ' h q => c.mono _ _ (fun a z => (f a.1 a.2).mono _ _ h z) q⟩
def bindX {α β : Type} (c : W (Ex α)) (f : α → W (Ex β)) : W (Ex β) := bind c fun r => match r with
  | .ok a => f a
  | .er e => ret (.er e)
def after (c : Ctl ρ S) (k : S → W ρ) : W ρ := match c with
  | .nx s => k s
  | .bk s => k s
  | .rt r => ret r
/-- a while loop: a turn tells whether it is left (bk) -/
def whileN : Nat → S → (S → W (Ctl ρ S)) → W (Ctl ρ S)
  | 0, _, _ => bad
  | n + 1, s, f => bind (f s) fun c => match c with
    | .nx s' => whileN n s' f
    | .bk s' => ret (.nx s')
    | .rt r => ret (.rt r)
def whileL (s : S) (f : S → W (Ctl ρ S)) : W (Ctl ρ S) := ⟨fun Φ => ∃ n, (whileN n s f).run Φ, fun _ _ h ⟨n, q⟩ => ⟨n, (whileN n s f).mono _ _ h q⟩⟩
end W
/-! ### data -/
class Py (α : Type) where
  toPy : α → PyData
abbrev toPy {α : Type} [Py α] (a : α) : PyData := Py.toPy a
structure P3 (α β γ : Type) where
  a : α
  b : β
  c : γ
  deriving DecidableEq
structure P4 (α β γ δ : Type) where
  a : α
  b : β
  c : γ
  d : δ
  deriving DecidableEq
structure P5 (α β γ δ ε : Type) where
  a : α
  b : β
  c : γ
  d : δ
  e : ε
  deriving DecidableEq
/-- a tuple of things of one kind -/
structure Tp (α : Type) where
  l : List α
  deriving DecidableEq
instance : Py Int := ⟨.int⟩
instance : Py Bool := ⟨.bool⟩
instance : Py Str := ⟨.str⟩
instance : Py Unit := ⟨fun _ => .none⟩
instance : Py PyData := ⟨id⟩
instance {α : Type} [Py α] : Py (Option α) := ⟨fun o => match o with | none => .none | some a => toPy a⟩
instance {α : Type} [Py α] : Py (List α) := ⟨fun xs => .list (xs.map Py.toPy)⟩
instance {α : Type} [Py α] : Py (Tp α) := ⟨fun xs => .tuple (xs.l.map Py.toPy)⟩
instance {α β : Type} [Py α] [Py β] : Py (α × β) := ⟨fun p => .tuple [toPy p.1, toPy p.2]⟩
instance {α β γ : Type} [Py α] [Py β] [Py γ] : Py (P3 α β γ) := ⟨fun p => .tuple [toPy p.a, toPy p.b, toPy p.c]⟩
instance {α β γ δ : Type} [Py α] [Py β] [Py γ] [Py δ] : Py (P4 α β γ δ) := ⟨fun p => .tuple [toPy p.a, toPy p.b, toPy p.c, toPy p.d]⟩
instance {α β γ δ ε : Type} [Py α] [Py β] [Py γ] [Py δ] [Py ε] : Py (P5 α β γ δ ε) := ⟨fun p => .tuple [toPy p.a, toPy p.b, toPy p.c, toPy p.d, toPy p.e]⟩
/-! a value is data; each tuple is tracked -/
mutual
inductive Dq (K : PySem.W.Frag) (H : Hp) : V → PyData → Prop
  | non : Dq K H .non .none
  | bl (b : Bool) : Dq K H (.bl b) (.bool b)
  | int (i : Int) : Dq K H (.int i) (.int i)
  | str (x : Str) : Dq K H (.str x) (.str x)
  | lst {a : Addr} {vs : List V} {ds : List PyData} (hs : SqL K H a vs) (hd : DqAll K H vs ds) : Dq K H (.ref a) (.list ds)
  | tup {a : Addr} {vs : List V} {ds : List PyData} (hs : H a = some (.tup vs)) (hd : DqAll K H vs ds) : Dq K H (.ref a) (.tuple ds)
  /-- an instance of a class of the text that stands for good -/
  | ins {a dx C : Addr} {cn : Str} {ns : List Str} {vs : List V} {ds : List PyData} (hC : PySem.W.nsIn K mainGlobals cn = some (some (.ref C))) (hs : H a = some (.ins C dx (ns.zip vs))) (hd : DqAll K H vs ds) : Dq K H (.ref a) (.dict [(.str cn, .list (ns.map .str)), (.none, .tuple ds)])
inductive DqAll (K : PySem.W.Frag) (H : Hp) : List V → List PyData → Prop
  | nil : DqAll K H [] []
  | cons {v : V} {vs : List V} {d : PyData} {ds : List PyData} (h : Dq K H v d) (hs : DqAll K H vs ds) : DqAll K H (v :: vs) (d :: ds)
end
section
variable {K : PySem.W.Frag} {H H' : Hp}
theorem Same.sqT {a : Addr} {xs : List V} (e : Same H H') (h : SqT K H a xs) : SqT K H' a xs := by
  rcases h with (h | ⟨o, h⟩) | h
  · exact .inl (.inl (e _ _ h))
  · exact .inl (.inr ⟨o, e _ _ h⟩)
  · exact .inr h
mutual
theorem dp_mono (e : Same H H') : ∀ (d : PyData) (v : V), Dq K H v d → Dq K H' v d
  | _, _, .non => .non
  | _, _, .bl b => .bl b
  | _, _, .int i => .int i
  | _, _, .str x => .str x
  | _, _, .lst hs ha => .lst (e.seq hs) (dpAll_mono e _ _ ha)
  | _, _, .tup hs ha => .tup (e _ _ hs) (dpAll_mono e _ _ ha)
  | _, _, .ins hC hs ha => .ins hC (e _ _ hs) (dpAll_mono e _ _ ha)
theorem dpAll_mono (e : Same H H') : ∀ (ds : List PyData) (vs : List V), DqAll K H vs ds → DqAll K H' vs ds
  | _, _, .nil => .nil
  | _, _, .cons h1 h2 => .cons (dp_mono e _ _ h1) (dpAll_mono e _ _ h2)
end
mutual
theorem Dq.dp : ∀ (d : PyData) (v : V), d.canLay0 = true → Dq K H v d → Dp K H v d
  | _, _, _, .non => .non
  | _, _, _, .bl b => .bl b
  | _, _, _, .int i => .int i
  | _, _, _, .str x => .str x
  | _, _, g, .lst hs ha => .lst hs (DqAll.dp _ _ (by simpa [PyData.canLay0] using g) ha)
  | _, _, g, .tup hs ha => .tup (SqT.of hs) (DqAll.dp _ _ (by simpa [PyData.canLay0] using g) ha)
  | _, _, g, .ins _ _ _ => by simp [PyData.canLay0] at g
theorem DqAll.dp : ∀ (ds : List PyData) (vs : List V), PyData.canLayAll0 ds = true → DqAll K H vs ds → DpAll K H vs ds
  | _, _, _, .nil => .nil
  | d :: ds, _, g, .cons h1 h2 => by
    have g' : PyData.canLay0 d = true ∧ PyData.canLayAll0 ds = true := by simpa [PyData.canLayAll0] using g
    exact .cons (Dq.dp _ _ g'.1 h1) (DqAll.dp _ _ g'.2 h2)
end
theorem shp {d : PyData} (h : SeqAt.shaped d = true) : d.canLay0 = true := by
  unfold SeqAt.shaped at h
  exact (Bool.and_eq_true _ _ ▸ h).1
end
section
variable {K : PySem.W.Frag} {H H' : Hp} {α : Type} [Py α]
abbrev D (K : PySem.W.Frag) (H : Hp) (v : V) (x : α) : Prop := Dq K H v (toPy x)
abbrev DL (K : PySem.W.Frag) (H : Hp) (vs : List V) (xs : List α) : Prop := DqAll K H vs (xs.map Py.toPy)
theorem D.mo {v : V} {x : α} (h : D K H v x) (e : Same H H') : D K H' v x := dp_mono e _ _ h
theorem DL.mo {vs : List V} {xs : List α} (h : DL K H vs xs) (e : Same H H') : DL K H' vs xs := dpAll_mono e _ _ h
theorem d_int {v : V} {i : Int} (h : D K H v i) : v = .int i := by cases h; rfl
theorem d_bool {v : V} {i : Bool} (h : D K H v i) : v = .bl i := by cases h; rfl
theorem d_str {v : V} {i : Str} (h : D K H v i) : v = .str i := by cases h; rfl
theorem dpAll_len {vs : List V} : ∀ {ds : List PyData}, DqAll K H vs ds → vs.length = ds.length := by
  induction vs with
  | nil => intro ds h; cases h; rfl
  | cons v vs ih => intro ds h; cases h with | cons h1 h2 => simp [ih h2]
theorem DL.len {vs : List V} {xs : List α} (h : DL K H vs xs) : vs.length = xs.length := by
  have := dpAll_len h
  simpa using this
theorem dpAll_get {vs : List V} : ∀ {ds : List PyData} {i : Nat} {d : PyData}, DqAll K H vs ds → ds[i]? = some d → ∃ v, vs[i]? = some v ∧ Dq K H v d := by
  induction vs with
  | nil => intro ds i d h e; cases h; simp at e
  | cons v vs ih =>
    intro ds i d h e
    cases h with
    | cons h1 h2 =>
      cases i with
      | zero => simp at e; subst e; exact ⟨v, rfl, h1⟩
      | succ i => simpa using ih h2 (by simpa using e)
theorem DL.get {vs : List V} {xs : List α} {i : Nat} {x : α} (h : DL K H vs xs) (e : xs[i]? = some x) : ∃ v, vs[i]? = some v ∧ D K H v x :=
  dpAll_get h (by simp [e])
theorem DL.at {vs : List V} {xs : List α} {i : Int} {x : α} (h : DL K H vs xs) (e : atI xs i = some x) : ∃ v, atI vs i = some v ∧ D K H v x := by
  unfold atI at e ⊢
  rw [h.len]
  cases q : ixN xs.length i with
  | none => rw [q] at e; cases e
  | some j =>
    rw [q] at e
    exact h.get e
theorem dpAll_append {vs ws : List V} {ds es : List PyData} (h : DqAll K H vs ds) (h' : DqAll K H ws es) : DqAll K H (vs ++ ws) (ds ++ es) := by
  induction vs generalizing ds with
  | nil => cases h; exact h'
  | cons v vs ih => cases h with | cons h1 h2 => exact .cons h1 (ih h2)
theorem DL.append {vs ws : List V} {xs ys : List α} (h : DL K H vs xs) (h' : DL K H ws ys) : DL K H (vs ++ ws) (xs ++ ys) := by
  unfold DL; rw [List.map_append]; exact dpAll_append h h'
theorem DL.push {vs : List V} {xs : List α} {v : V} {x : α} (h : DL K H vs xs) (h' : D K H v x) : DL K H (vs ++ [v]) (xs ++ [x]) :=
  h.append (.cons h' .nil)
theorem dpAll_set {vs : List V} {ds : List PyData} {v : V} {d : PyData} (h : DqAll K H vs ds) (h' : Dq K H v d) (j : Nat) : DqAll K H (vs.set j v) (ds.set j d) := by
  induction vs generalizing ds j with
  | nil => cases h; exact .nil
  | cons u vs ih =>
    cases h with
    | cons h1 h2 =>
      cases j with
      | zero => exact .cons h' h2
      | succ j => exact .cons h1 (ih h2 j)
theorem DL.set {vs : List V} {xs : List α} {v : V} {x : α} (h : DL K H vs xs) (h' : D K H v x) (j : Nat) : DL K H (vs.set j v) (xs.set j x) := by
  unfold DL; rw [List.map_set]; exact dpAll_set h h' j
theorem dpAll_take {vs : List V} {ds : List PyData} (h : DqAll K H vs ds) (n : Nat) : DqAll K H (vs.take n) (ds.take n) := by
  induction n generalizing vs ds with
  | zero => exact .nil
  | succ n ih => cases h with | nil => exact .nil | cons h1 h2 => exact .cons h1 (ih h2)
theorem dpAll_drop {vs : List V} {ds : List PyData} (h : DqAll K H vs ds) (n : Nat) : DqAll K H (vs.drop n) (ds.drop n) := by
  induction n generalizing vs ds with
  | zero => exact h
  | succ n ih => cases h with | nil => exact .nil | cons h1 h2 => exact ih h2
def cut {α : Type} (xs : List α) (lo hi : Option Int) : List α := (xs.drop (HT.sIx xs.length 0 lo)).take (HT.sIx xs.length xs.length hi - HT.sIx xs.length 0 lo)
theorem DL.cut {vs : List V} {xs : List α} (h : DL K H vs xs) (lo hi : Option Int) : DL K H (cutV vs lo hi) (Z.cut xs lo hi) := by
  unfold DL cutV Z.cut
  rw [List.map_take, List.map_drop, h.len]
  exact dpAll_take (dpAll_drop h _) _
theorem dl_ints {vs : List V} : ∀ {xs : List Int}, DL K H vs xs → vs = xs.map V.int := by
  induction vs with
  | nil => intro xs h; cases xs with | nil => rfl | cons x xs => cases h
  | cons v vs ih =>
    intro xs h
    cases xs with
    | nil => cases h
    | cons x xs => cases h with | cons h1 h2 => rw [ih h2, d_int h1]; rfl
theorem dl_bools {vs : List V} : ∀ {xs : List Bool}, DL K H vs xs → vs = xs.map V.bl := by
  induction vs with
  | nil => intro xs h; cases xs with | nil => rfl | cons x xs => cases h
  | cons v vs ih =>
    intro xs h
    cases xs with
    | nil => cases h
    | cons x xs => cases h with | cons h1 h2 => rw [ih h2, d_bool h1]; rfl
theorem ints_dl : ∀ {xs : List Int}, DL K H (xs.map V.int) xs
  | [] => .nil
  | x :: xs => .cons (.int x) ints_dl
end

/-! ### the state: what stands for good (Ho), what may be written (rs) -/
/-- no tuple: tuples never change, so that none is written -/
def NotTup : HO → Prop
  | .tup _ => False
  | _ => True
structure Zs (rs : List (Addr × HO)) (H Ho : Hp) : Prop where
  le : Same Ho H
  rt : ∀ r ∈ rs, H r.1 = some r.2 ∧ Ho r.1 = none
  nd : (rs.map (·.1)).Nodup
  nt : ∀ r ∈ rs, NotTup r.2

section
variable {K : PySem.W.Frag} {H Ho H' Ho' : Hp} {rs : List (Addr × HO)} {p q : Addr} {o o' : HO}
theorem Zs.free (z : Zs rs H Ho) (h : H q = none) : Ho q = none := z.le.free h
theorem Zs.nin (z : Zs rs H Ho) (h : H q = none) : ∀ r ∈ rs, r.1 ≠ q := fun r hr e => by
  have := (z.rt r hr).1
  rw [e, h] at this
  cases this
/-- a new object that stays -/
theorem Zs.alloc (z : Zs rs H Ho) (h : H q = none) : Zs rs (upd H q o) (upd Ho q o) :=
  ⟨fun b x e => by
    by_cases hb : b = q
    · subst hb; rw [upd_same] at e ⊢; exact e
    · rw [upd_ne hb] at e ⊢; exact z.le b x e,
   fun r hr => by
    have ne := z.nin h r hr
    rw [upd_ne ne, upd_ne ne]; exact z.rt r hr, z.nd, z.nt⟩
theorem Same.new (h : Ho q = none) : Same Ho (upd Ho q o) := fun b x e => by
  rw [upd_ne (ne_of_none e h)]; exact e
/-- a new object that may be written -/
theorem Zs.root (z : Zs rs H Ho) (h : H q = none) (hn : NotTup o := by exact trivial) : Zs ((q, o) :: rs) (upd H q o) Ho :=
  ⟨fun b x e => by
    rw [upd_ne (ne_of_none (z.le b x e) h)]; exact z.le b x e,
   fun r hr => by
    rcases List.mem_cons.mp hr with e | hr
    · subst e; exact ⟨upd_same, z.free h⟩
    · rw [upd_ne (z.nin h r hr)]; exact z.rt r hr,
   List.nodup_cons.mpr ⟨fun hm => by
    obtain ⟨r, hr, e⟩ := List.mem_map.mp hm
    exact z.nin h r hr e, z.nd⟩, fun r hr => by
    rcases List.mem_cons.mp hr with e | hr
    · subst e; exact hn
    · exact z.nt r hr⟩
theorem Zs.put (z : Zs ((p, o) :: rs) H Ho) (hn : NotTup o' := by exact trivial) : Zs ((p, o') :: rs) (upd H p o') Ho :=
  ⟨fun b x e => by
    have np : b ≠ p := fun e' => by subst e'; rw [(z.rt _ List.mem_cons_self).2] at e; cases e
    rw [upd_ne np]; exact z.le b x e,
   fun r hr => by
    rcases List.mem_cons.mp hr with e | hr
    · subst e; exact ⟨upd_same, (z.rt _ List.mem_cons_self).2⟩
    · have np : r.1 ≠ p := fun e' => by
        have := (List.nodup_cons.mp z.nd).1
        exact this (List.mem_map.mpr ⟨r, hr, e'⟩)
      rw [upd_ne np]; exact z.rt r (List.mem_cons_of_mem _ hr), z.nd, fun r hr => by
    rcases List.mem_cons.mp hr with e | hr
    · subst e; exact hn
    · exact z.nt r (List.mem_cons_of_mem _ hr)⟩
theorem Zs.tail (z : Zs ((p, o) :: rs) H Ho) : Zs rs H Ho :=
  ⟨z.le, fun r hr => z.rt r (List.mem_cons_of_mem _ hr), (List.nodup_cons.mp z.nd).2, fun r hr => z.nt r (List.mem_cons_of_mem _ hr)⟩
theorem Zs.head (z : Zs ((p, o) :: rs) H Ho) : H p = some o := (z.rt _ List.mem_cons_self).1
theorem Zs.headN (z : Zs ((p, o) :: rs) H Ho) : Ho p = none := (z.rt _ List.mem_cons_self).2
/-- what may be written stands for good from now on -/
theorem Zs.freeze (z : Zs ((p, o) :: rs) H Ho) : Zs rs H (upd Ho p o) :=
  ⟨fun b x e => by
    by_cases hb : b = p
    · subst hb; rw [upd_same] at e; rw [← e]; exact z.head
    · rw [upd_ne hb] at e; exact z.le b x e,
   fun r hr => by
    have np : r.1 ≠ p := fun e' => (List.nodup_cons.mp z.nd).1 (List.mem_map.mpr ⟨r, hr, e'⟩)
    rw [upd_ne np]; exact z.rt r (List.mem_cons_of_mem _ hr), (List.nodup_cons.mp z.nd).2, fun r hr => z.nt r (List.mem_cons_of_mem _ hr)⟩
theorem Zs.perm {rs' : List (Addr × HO)} (z : Zs rs H Ho) (h : rs.Perm rs') : Zs rs' H Ho :=
  ⟨z.le, fun r hr => z.rt r (h.mem_iff.mpr hr), (h.map _).nodup_iff.mp z.nd, fun r hr => z.nt r (h.mem_iff.mpr hr)⟩
theorem perm1 {α : Type} {a b : α} {l : List α} : (a :: b :: l).Perm (b :: a :: l) := List.Perm.swap b a l
theorem perm2 {α : Type} {a b c : α} {l : List α} : (a :: b :: c :: l).Perm (c :: a :: b :: l) :=
  (List.Perm.cons a (List.Perm.swap c b l)).trans (List.Perm.swap c a (b :: l))
theorem perm2' {α : Type} {a b c : α} {l : List α} : (c :: a :: b :: l).Perm (a :: b :: c :: l) := perm2.symm
theorem perm3 {α : Type} {a b c d : α} {l : List α} : (a :: b :: c :: d :: l).Perm (d :: a :: b :: c :: l) :=
  (List.Perm.cons a perm2).trans (List.Perm.swap d a (b :: c :: l))
theorem perm3' {α : Type} {a b c d : α} {l : List α} : (d :: a :: b :: c :: l).Perm (a :: b :: c :: d :: l) := perm3.symm
theorem Zs.sw1 {a b : Addr × HO} (z : Zs (a :: b :: rs) H Ho) : Zs (b :: a :: rs) H Ho := z.perm perm1
theorem Zs.sw2 {a b c : Addr × HO} (z : Zs (a :: b :: c :: rs) H Ho) : Zs (c :: a :: b :: rs) H Ho := z.perm perm2
theorem Zs.sw2' {a b c : Addr × HO} (z : Zs (c :: a :: b :: rs) H Ho) : Zs (a :: b :: c :: rs) H Ho := z.perm perm2'
theorem Zs.sw3 {a b c d : Addr × HO} (z : Zs (a :: b :: c :: d :: rs) H Ho) : Zs (d :: a :: b :: c :: rs) H Ho := z.perm perm3
theorem Zs.sw3' {a b c d : Addr × HO} (z : Zs (d :: a :: b :: c :: rs) H Ho) : Zs (a :: b :: c :: d :: rs) H Ho := z.perm perm3'
end

/-- a list that is read -/
def LV {α : Type} [Py α] (K : PySem.W.Frag) (rs : List (Addr × HO)) (Ho : Hp) (v : V) (xs : List α) : Prop :=
  ∃ p vs, v = .ref p ∧ DL K Ho vs xs ∧ (SqL K Ho p vs ∨ (p, HO.lst vs) ∈ rs)
section
variable {K : PySem.W.Frag} {H Ho H' Ho' : Hp} {rs rs' : List (Addr × HO)} {α : Type} [Py α] {v : V} {xs : List α}
theorem LV.mo (h : LV K rs Ho v xs) (e : Same Ho Ho') : LV K rs Ho' v xs := by
  obtain ⟨p, vs, rfl, d, s⟩ := h
  exact ⟨p, vs, rfl, DL.mo d e, s.imp (fun s => e.seq s) id⟩
theorem LV.sub (h : LV K rs Ho v xs) (e : ∀ r ∈ rs, r ∈ rs') : LV K rs' Ho v xs := by
  obtain ⟨p, vs, rfl, d, s⟩ := h
  exact ⟨p, vs, rfl, d, s.imp id (e _)⟩
theorem LV.cons {r : Addr × HO} (h : LV K rs Ho v xs) : LV K (r :: rs) Ho v xs := h.sub fun _ m => List.mem_cons_of_mem _ m
theorem LV.of (h : D K Ho v xs) : LV K rs Ho v xs := by
  cases h with
  | lst hs ha => exact ⟨_, _, rfl, ha, .inl hs⟩
theorem LV.rd (h : LV K rs Ho v xs) (z : Zs rs H Ho) : ∃ p vs, v = .ref p ∧ DL K Ho vs xs ∧ SqL K H p vs := by
  obtain ⟨p, vs, rfl, d, s⟩ := h
  refine ⟨p, vs, rfl, d, ?_⟩
  rcases s with s | s
  · exact z.le.seq s
  · exact SqL.of (z.rt _ s).1
theorem LV.dp (h : LV K rs Ho v xs) (z : Zs rs H Ho) : D K H v xs := by
  obtain ⟨p, vs, rfl, d, s⟩ := h.rd z
  exact .lst s (DL.mo d z.le)
theorem lv_root {p : Addr} {vs : List V} (d : DL K Ho vs xs) (m : (p, HO.lst vs) ∈ rs) : LV K rs Ho (.ref p) xs := ⟨p, vs, rfl, d, .inr m⟩
end


/-! ### more rules of the machine -/
section
variable {X : Cx}
def rCatS (K : PySem.W.Frag) : R2 := fun x y H Q => ∃ l b xs zs, x = .ref l ∧ y = .ref b ∧ SqL K H l xs ∧ SqL K H b zs ∧ xs.length + zs.length ≤ sizeLine ∧ ∀ p, H p = none → Q (.ref p) (upd H p (.lst (xs ++ zs)))
theorem op_catS : OpR X (binaryOp .Add) (rCatS X.K) := by
  intro pins s σ H x y v u Q I rx ry h
  obtain ⟨l, b, xs, zs, rfl, rfl, hH, hB, hz, q⟩ := h
  cases rx
  cases ry
  obtain ⟨its, r, pl, _⟩ := I.list hH
  obtain ⟨its2, r2, pl2, _⟩ := I.list hB
  have hl := r.length
  have hl2 := r2.length
  obtain ⟨⟨cls, dd, data, sl⟩, ho, hc, n, hd⟩ := pl.isList
  obtain ⟨⟨cls2, dd2, data2, sl2⟩, ho2, hc2, n2, hd2⟩ := pl2.isList
  simp only at hc hd hc2 hd2
  subst hc hd hc2 hd2
  have ea : its.toArray ++ its2.toArray = (its ++ its2).toArray := by simp
  refine concat_meets ⟨_, ho, rfl⟩ ⟨_, ho2, rfl⟩ noFill_list_add seq_list_add PySem.F.slot_list_add PySem.F.entry_list_add (PySem.F.args_list_add_2 _ _) (list_addW l b its.toArray its2.toArray n n2 dd dd2 sl sl2 (by simp only [List.size_toArray]; omega)) ⟨ho, ho2, ?_⟩
  rw [ea]
  exact ⟨.ref _, _, I.lnew (t' := s.toks) (r.append r2) (by rw [List.length_append]; omega), rfl, q _ I.fresh⟩
/-- xs[i] as the old value of xs[i] op= e -/
theorem get_list : PGet X (rIxL X.K) := by
  intro pins s σ H o i ov iv Q I ro ri h
  obtain ⟨p, xs, i, z, rfl, rfl, hq, he, q⟩ := h
  cases ro
  obtain ⟨t, rfl⟩ := ri
  obtain ⟨its, r, pl, hz⟩ := I.list hq
  obtain ⟨j, h1, h2, h3, h4, h5⟩ := atI_get he
  obtain ⟨w, ew, rw'⟩ := r.get h2
  have hl := r.length
  have hn := line63
  have fin : EP X pins σ Q w s := ⟨z, H, I, rw', q⟩
  by_cases h0 : 0 ≤ i
  · have hj : i.toNat = j := by
      rw [seqIndex_of h0 h5] at h1
      exact Option.some.inj h1
    exact wpAny_getItem_list pl.isList h0 (by omega) (by rw [hj]; simpa using ew) fin
  · have hj : (i + (its.toArray.size : Int)).toNat = j := by
      rw [seqIndex_neg (by omega) h4] at h1
      rw [List.size_toArray, ← hl]
      exact Option.some.inj h1
    exact wpAny_getItem_list_neg pl.isList (by omega) (by rw [List.size_toArray] <;> omega) (by omega) (by rw [hj]; simpa using ew) fin
end
end Z

/-! # Y1: readings step by step -/
namespace Z
open PySem PySem.Spec PyProof.Rows L2

/-! ### roots -/
theorem Zs.putI {rs : List (Addr × HO)} {H Ho : Hp} {n : Nat} {p : Addr} {o o' : HO} (z : Zs rs H Ho) (h : rs[n]? = some (p, o)) (hn : NotTup o' := by exact trivial) : Zs (rs.set n (p, o')) (upd H p o') Ho := by
  have hp := z.rt (p, o) (List.mem_of_getElem? h)
  have idx : ∀ m r, rs[m]? = some r → r.1 = p → m = n := fun m r hm e => by
    have h1 : (rs.map (·.1))[m]? = some p := by rw [List.getElem?_map, hm]; exact congrArg some e
    have h2 : (rs.map (·.1))[n]? = some p := by rw [List.getElem?_map, h]; rfl
    exact nd_ix z.nd h1 h2
  refine ⟨fun b x e => ?_, fun r hr => ?_, ?_, fun r hr => ?_⟩
  · have np : b ≠ p := fun e' => by subst e'; rw [hp.2] at e; cases e
    rw [upd_ne np]; exact z.le b x e
  · obtain ⟨m, hm⟩ := List.mem_iff_getElem?.mp hr
    rw [List.getElem?_set] at hm
    by_cases c : n = m
    · rw [if_pos c] at hm
      split at hm
      · cases hm; exact ⟨upd_same, hp.2⟩
      · cases hm
    · rw [if_neg c] at hm
      have np : r.1 ≠ p := fun e => c (idx m r hm e).symm
      rw [upd_ne np]; exact z.rt r (List.mem_of_getElem? hm)
  · have e : (rs.set n (p, o')).map (·.1) = rs.map (·.1) := by
      rw [List.map_set]
      apply List.ext_getElem?
      intro m
      rw [List.getElem?_set]
      split
      · rename_i c
        subst c
        rw [List.getElem?_map, h]
        have hl : n < (rs.map (·.1)).length := by rw [List.length_map]; exact (List.getElem?_eq_some_iff.mp h).1
        rw [if_pos hl]; rfl
      · rfl
    rw [e]; exact z.nd
  · rcases List.mem_or_eq_of_mem_set hr with q | q
    · exact z.nt r q
    · subst q; exact hn
theorem Zs.sub {rs rs' : List (Addr × HO)} {H Ho : Hp} (z : Zs rs H Ho) (h : rs'.Sublist rs) : Zs rs' H Ho :=
  ⟨z.le, fun r hr => z.rt r (h.subset hr), (h.map _).nodup z.nd, fun r hr => z.nt r (h.subset hr)⟩
/-- some of the roots, in any order -/
theorem Zs.re {rs rs' : List (Addr × HO)} {H Ho : Hp} (l amb : List (Addr × HO)) (is : List Nat) (z : Zs rs H Ho) (h1 : rs = l ++ amb := by rfl) (h2 : rs' = (is.filterMap fun i => l[i]?) ++ amb := by rfl) (hn : is.Nodup := by decide) : Zs rs' H Ho := by
  subst h1 h2
  have sub : ∀ r ∈ (is.filterMap fun i => l[i]?), r ∈ l := fun r hr => by
    obtain ⟨i, _, e⟩ := List.mem_filterMap.mp hr
    exact List.mem_of_getElem? e
  have sub2 : ∀ r ∈ (is.filterMap fun i => l[i]?) ++ amb, r ∈ l ++ amb := fun r hr => by
    rcases List.mem_append.mp hr with h | h
    · exact List.mem_append.mpr (.inl (sub r h))
    · exact List.mem_append.mpr (.inr h)
  refine ⟨z.le, fun r hr => z.rt r (sub2 r hr), ?_, fun r hr => z.nt r (sub2 r hr)⟩
  · have nd := z.nd
    rw [List.map_append, List.nodup_append] at nd ⊢
    refine ⟨?_, nd.2.1, fun a ha b hb => ?_⟩
    · rw [List.map_filterMap]
      refine List.Pairwise.filterMap _ (fun i j hij a ha b hb e => ?_) hn
      subst e
      simp only [Option.map_eq_some_iff] at ha hb
      obtain ⟨r, e1, e2⟩ := ha
      obtain ⟨q, e3, e4⟩ := hb
      refine hij (nd_ix nd.1 (show (l.map (·.1))[i]? = some a from ?_) (show (l.map (·.1))[j]? = some a from ?_))
      · rw [List.getElem?_map, e1]; exact congrArg some e2
      · rw [List.getElem?_map, e3]; exact congrArg some e4
    · obtain ⟨r, hr, rfl⟩ := List.mem_map.mp ha
      exact nd.2.2 _ (List.mem_map.mpr ⟨r, sub r hr, rfl⟩) b hb
theorem rt_mem {rs : List (Addr × HO)} {n : Nat} {a : Addr × HO} (h : rs[n]? = some a) : a ∈ rs := List.mem_of_getElem? h
def subN {rs : List (Addr × HO)} (n : Nat) {xs : List (Addr × HO)} (h : xs.drop n = rs) : ∀ r ∈ rs, r ∈ xs := fun r m => List.mem_of_mem_drop (i := n) (h ▸ m)

section
variable {K : PySem.W.Frag} {rs r0 : List (Addr × HO)} {σ : L2.St} {H Ho : Hp} {ta tb tc te : TE} {tt tu : TT} {ts : TA} {Q : VK} {QB : Bool → Hp → Prop} {u t1 t2 : TS} {D : Ends} {v w : V} {i : Nat} {α β γ : Type} [Py α] [Py β] {Φ : γ → Prop} {p : Addr}
theorem frz {ws : List V} {xs : List α} (z : Zs ((p, .lst ws) :: rs) H Ho) (d : DL K Ho ws xs) : ∃ Ho', Same Ho Ho' ∧ Zs rs H Ho' ∧ Z.D K Ho' (.ref p) xs := by
  have e : Same Ho (upd Ho p (.lst ws)) := Same.new z.headN
  exact ⟨_, e, z.freeze, .lst (SqL.of upd_same) (DL.mo d e)⟩
/-- a new list that stands for good at once -/
theorem frzK {Q' : Addr → Hp → Prop} {H' : Hp} {xs : List α} (k : ∀ p Ho', Same Ho Ho' → Zs rs H' Ho' → Z.D K Ho' (.ref p) xs → Q' p H') : ∀ p ws, Zs ((p, .lst ws) :: rs) H' Ho → DL K Ho ws xs → Q' p H' := fun p ws z d => by
  obtain ⟨Ho', e, z', d'⟩ := frz z d
  exact k p Ho' e z' d'
/-! ### expressions -/
theorem y_var (h : σ[i]? = some (some v)) (k : Q v H) : tVar i σ H Q := ⟨v, h, k⟩
theorem y_c (k : Q v H) : tC v σ H Q := k
theorem y_op {r : R2} (k : ta σ H fun x H1 => tb σ H1 fun y H2 => r x y H2 Q) : tOp r ta tb σ H Q := k
theorem y_un {r : V → Hp → VK → Prop} (k : ta σ H fun x H1 => r x H1 Q) : tUn r ta σ H Q := k
theorem y_test (k : te σ H fun x H1 => ∃ c, x = .bl c ∧ QB c H1) : tTest te σ H QB := k
theorem y_tB (k : te σ H fun x H1 => ∃ c, x = .bl c ∧ QB c H1) : tB te σ H QB := k
theorem y_bl {b : Bool} (k : QB b H) : ∃ c, V.bl b = .bl c ∧ QB c H := ⟨b, rfl, k⟩
theorem y_not (k : tt σ H fun c H1 => QB (!c) H1) : tNot tt σ H QB := k
theorem y_notV (k : te σ H fun x H1 => ∃ c, x = .bl c ∧ Q (.bl (!c)) H1) : tNotV te σ H Q := k
theorem y_andV (k : ta σ H fun x H1 => ∃ c, x = .bl c ∧ if c = true then tb σ H1 Q else Q (.bl false) H1) : tAndV ta tb σ H Q := k
theorem y_orV (k : ta σ H fun x H1 => ∃ c, x = .bl c ∧ if c = true then Q (.bl true) H1 else tb σ H1 Q) : tOrV ta tb σ H Q := k
theorem y_and (k : tt σ H fun c H1 => if c = true then tu σ H1 QB else QB false H1) : tAnd tt tu σ H QB := k
theorem y_or (k : tt σ H fun c H1 => if c = true then QB true H1 else tu σ H1 QB) : tOr tt tu σ H QB := k
theorem y_if (k : tt σ H fun c H1 => if c = true then ta σ H1 Q else tb σ H1 Q) : tIf tt ta tb σ H Q := k
theorem y_chain {r r' : R2} (k : ta σ H fun x H1 => tb σ H1 fun y H2 => r x y H2 fun z H3 => ∃ c, z = .bl c ∧ (if c = true then tc σ H3 fun w' H4 => r' y w' H4 Q else Q (.bl false) H3)) : tChain r r' ta tb tc σ H Q := k
theorem y_cb {r : List V → Hp → VK → Prop} (k : ts σ H fun vs H1 => r vs H1 Q) : tCB r ts σ H Q := k
theorem y_nil {QL : List V → Hp → Prop} (k : QL [] H) : tNil σ H QL := k
theorem y_cons {QL : List V → Hp → Prop} (k : ta σ H fun x H1 => ts σ H1 fun xs H2 => QL (x :: xs) H2) : tCons ta ts σ H QL := k
theorem y_lst (k : ts σ H fun xs H1 => xs.length ≤ sizeLine ∧ ∀ p, H1 p = none → Q (.ref p) (upd H1 p (.lst xs))) : tLst ts σ H Q := k
theorem y_tup (k : ts σ H fun xs H1 => xs.length ≤ sizeLine ∧ ∀ p, H1 p = none → Q (.ref p) (upd H1 p (.tup xs))) : tTup ts σ H Q := k
theorem y_sl {r : V → Option Int → Option Int → Hp → VK → Prop} {tl th : TO} (k : te σ H fun x H1 => tl σ H1 fun l H2 => th σ H2 fun u H3 => r x l u H3 Q) : tSl r te tl th σ H Q := k
theorem y_noPart {QO : Option Int → Hp → Prop} (k : QO none H) : tNoPart σ H QO := k
theorem y_part {QO : Option Int → Hp → Prop} (k : te σ H fun x H1 => ∃ i, x = .int i ∧ QO (some i) H1) : tPart te σ H QO := k
theorem y_int {QO : Int → Hp → Prop} {i : Int} (k : QO i H) : ∃ j, V.int i = .int j ∧ QO j H := ⟨i, rfl, k⟩
theorem y_call {sp : Sp} {E : XK} (k : ts σ H fun vs H1 => sp (vs ++ []) H1 Q E) : tCall sp [] E ts σ H Q := k
theorem y_bm {T : String} {r : V → List V → Hp → VK → Prop} (k : te σ H fun x H1 => tyV K T x H1 ∧ ts σ H1 fun xs H2 => r x xs H2 Q) : tBM K T r te ts σ H Q := k
theorem y_bm0 {T : String} {r : V → List V → Hp → VK → Prop} (k : te σ H fun x H1 => tyV K T x H1 ∧ r x [] H1 Q) : tBM0 K T r te σ H Q := k
/-! ### values -/
theorem y_i0 {g : Int → Int → V} {a b : Int} (k : Q (g a b) H) : rI0 g (.int a) (.int b) H Q := ⟨a, b, rfl, rfl, k⟩
theorem y_ig {C : Int → Int → Prop} {g : Int → Int → V} {a b : Int} (c : C a b) (k : Q (g a b) H) : rI C g (.int a) (.int b) H Q := ⟨a, b, rfl, rfl, c, k⟩
theorem y_neg {a : Int} (k : Q (.int (-a)) H) : rU (fun i => .int (-i)) (.int a) H Q := ⟨a, rfl, k⟩
theorem y_eqi {a b : Int} (k : Q (.bl (decide (a = b))) H) : rEq (.int a) (.int b) H Q := ⟨rfl, by
  have e : decide (V.int a = V.int b) = decide (a = b) := by simp
  rw [e]; exact k⟩
theorem y_nei {a b : Int} (k : Q (.bl (!decide (a = b))) H) : rNe (.int a) (.int b) H Q := ⟨rfl, by
  have e : decide (V.int a = V.int b) = decide (a = b) := by simp
  rw [e]; exact k⟩
theorem y_eqb {a b : Bool} (k : Q (.bl (decide (a = b))) H) : rEq (.bl a) (.bl b) H Q := ⟨rfl, by
  have e : decide (V.bl a = V.bl b) = decide (a = b) := by simp
  rw [e]; exact k⟩
theorem y_neb {a b : Bool} (k : Q (.bl (!decide (a = b))) H) : rNe (.bl a) (.bl b) H Q := ⟨rfl, by
  have e : decide (V.bl a = V.bl b) = decide (a = b) := by simp
  rw [e]; exact k⟩
theorem y_eqs {a b : Str} (k : Q (.bl (decide (a = b))) H) : rEq (.str a) (.str b) H Q := ⟨rfl, by
  have e : decide (V.str a = V.str b) = decide (a = b) := by simp
  rw [e]; exact k⟩
theorem y_nes {a b : Str} (k : Q (.bl (!decide (a = b))) H) : rNe (.str a) (.str b) H Q := ⟨rfl, by
  have e : decide (V.str a = V.str b) = decide (a = b) := by simp
  rw [e]; exact k⟩
def eqD {β γ : Type} [Py β] [Py γ] (x : β) (y : γ) : Bool := PyData.eqv (toPy x) (toPy y)
def okD {β : Type} [Py β] (x : β) : Prop := SeqAt.shaped (toPy x) = true
theorem y_eqD {x : α} {y : β} (d1 : Z.D K H v x) (d2 : Z.D K H w y) (hg : okD x ∧ okD y) (k : Q (.bl (eqD x y)) H) : rEqD K v w H Q := ⟨_, _, Dq.dp _ _ (shp hg.1) d1, Dq.dp _ _ (shp hg.2) d2, hg.1, hg.2, k⟩
theorem y_neD {x : α} {y : β} (d1 : Z.D K H v x) (d2 : Z.D K H w y) (hg : okD x ∧ okD y) (k : Q (.bl (!eqD x y)) H) : rNeD K v w H Q := ⟨_, _, Dq.dp _ _ (shp hg.1) d1, Dq.dp _ _ (shp hg.2) d2, hg.1, hg.2, k⟩
def inD (x : α) (ys : List β) : Bool := ys.any fun y => eqD y x
theorem any_map {x : α} : ∀ {ys : List β}, ((ys.map Py.toPy).any fun z => PyData.eqv z (toPy x)) = inD x ys
  | [] => rfl
  | y :: ys => by
    show (_ || _) = (_ || _)
    rw [any_map]; rfl
theorem y_inD {x : α} {ys : List β} (d1 : Z.D K H v x) (d2 : Z.D K H w ys) (hg : okD x ∧ okD ys) (k : Q (.bl (inD x ys)) H) : rInD K v w H Q := ⟨_, _, Dq.dp _ _ (shp hg.1) d1, Dq.dp _ _ (shp hg.2) d2, hg.1, hg.2, by
  have e := any_map (x := x) (ys := ys)
  exact e ▸ k⟩
theorem y_notInD {x : α} {ys : List β} (d1 : Z.D K H v x) (d2 : Z.D K H w ys) (hg : okD x ∧ okD ys) (k : Q (.bl (!inD x ys)) H) : rNotInD K v w H Q := ⟨_, _, Dq.dp _ _ (shp hg.1) d1, Dq.dp _ _ (shp hg.2) d2, hg.1, hg.2, by
  have e := any_map (x := x) (ys := ys)
  exact e ▸ k⟩
theorem dec_non {x : Option β} (d : Z.D K H v x) (hg : ∀ b : β, x = some b → toPy b ≠ .none) : decide (v = .non) = x.isNone := by
  cases x with
  | none => cases d; rfl
  | some b =>
    rw [decide_eq_false]
    · rfl
    · intro ev
      subst ev
      have d3 : Dq K H V.non (toPy b) := d
      have nb := hg b rfl
      generalize toPy b = pb at d3 nb
      cases d3
      exact nb rfl
theorem y_isN {x : Option β} (d : Z.D K H v x) (hg : ∀ b : β, x = some b → toPy b ≠ .none) (k : Q (.bl x.isNone) H) : (fun x y H Q => y = .non ∧ Q (.bl (decide (x = .non))) H : R2) v .non H Q := ⟨rfl, by rw [dec_non d hg]; exact k⟩
theorem y_notN {x : Option β} (d : Z.D K H v x) (hg : ∀ b : β, x = some b → toPy b ≠ .none) (k : Q (.bl x.isSome) H) : (fun x y H Q => y = .non ∧ Q (.bl (!decide (x = .non))) H : R2) v .non H Q := ⟨rfl, by
  rw [dec_non d hg, show (!x.isNone) = x.isSome by cases x <;> rfl]; exact k⟩
/-! lists read -/
theorem y_ixL {xs : List α} {i : Int} {f : α → W γ} (d : LV K rs Ho v xs) (z : Zs rs H Ho) (hw : (W.bind (W.opt (atI xs i)) f).run Φ) (k : ∀ t w, Z.D K Ho w t → (f t).run Φ → Q w H) : rIxL K v (.int i) H Q := by
  obtain ⟨p, vs, rfl, d, s⟩ := d.rd z
  obtain ⟨a, ea, hw⟩ := hw
  obtain ⟨w, ew, dw⟩ := DL.at d ea
  exact ⟨p, vs, i, w, rfl, rfl, s, ew, k a w dw hw⟩
theorem y_ixT {x : α} {y : β} {i : Int} (d : Z.D K Ho v x) (z : Zs rs H Ho) (hj : ∃ ds, toPy x = .tuple ds ∧ atI ds i = some (toPy y)) (k : ∀ w, Z.D K Ho w y → Q w H) : rIxT K v (.int i) H Q := by
  obtain ⟨ds, e1, e3⟩ := hj
  have d : Dq K Ho v (toPy x) := d
  rw [e1] at d
  cases d with
  | tup hs ha =>
    have hl := dpAll_len ha
    unfold atI at e3
    rw [← hl] at e3
    cases q : ixN _ i with
    | none => rw [q] at e3; cases e3
    | some j =>
      rw [q] at e3
      obtain ⟨w, ew, dw⟩ := dpAll_get ha e3
      refine ⟨_, _, _, w, rfl, rfl, SqT.of (z.le _ _ hs), ?_, k w dw⟩
      unfold atI
      rw [q]
      exact ew
theorem y_ixTp {xs : Tp α} {i : Int} {f : α → W γ} (d : Z.D K Ho v xs) (z : Zs rs H Ho) (hw : (W.bind (W.opt (atI xs.l i)) f).run Φ) (k : ∀ t w, Z.D K Ho w t → (f t).run Φ → Q w H) : rIxT K v (.int i) H Q := by
  obtain ⟨a, ea, hw⟩ := hw
  cases d with
  | tup hs ha =>
    obtain ⟨w, ew, dw⟩ := DL.at (K := K) (H := Ho) ha ea
    exact ⟨_, _, i, w, rfl, rfl, SqT.of (z.le _ _ hs), ew, k a w dw hw⟩
theorem y_slL {xs : List α} {l h : Option Int} (d : LV K rs Ho v xs) (z : Zs rs H Ho) (k : ∀ H' p ws, Zs ((p, .lst ws) :: rs) H' Ho → DL K Ho ws (Z.cut xs l h) → Q (.ref p) H') : rSlL K v l h H Q := by
  obtain ⟨p, vs, rfl, d, s⟩ := d.rd z
  exact ⟨p, vs, rfl, s, fun q hq => k _ q _ (z.root hq) (DL.cut d l h)⟩
theorem y_cat {xs ys : List α} (d1 : LV K rs Ho v xs) (d2 : LV K rs Ho w ys) (z : Zs rs H Ho) (hg : xs.length + ys.length ≤ sizeLine) (k : ∀ H' p ws, Zs ((p, .lst ws) :: rs) H' Ho → DL K Ho ws (xs ++ ys) → Q (.ref p) H') : rCatS K v w H Q := by
  obtain ⟨p, vs, rfl, d, s⟩ := LV.rd d1 z
  obtain ⟨p', vs', rfl, d', s'⟩ := LV.rd d2 z
  exact ⟨p, p', vs, vs', rfl, rfl, s, s', by rw [d.len, d'.len]; exact hg, fun q hq => k _ _ _ (z.root hq) (d.append d')⟩
theorem rep_dl {vs : List V} {xs : List α} (d : DL K Ho vs xs) (n : Nat) : DL K Ho (List.replicate n vs).flatten (List.replicate n xs).flatten := by
  induction n with
  | zero => exact .nil
  | succ n ih =>
    rw [List.replicate_succ, List.flatten_cons, List.replicate_succ, List.flatten_cons]
    exact d.append ih
def repG {α : Type} (xs : List α) (k : Int) : Prop := -(2 ^ 63) ≤ k ∧ k < 2 ^ 63 ∧ xs.length * k.toNat ≤ sizeLine
def repL {α : Type} (xs : List α) (k : Int) : List α := (List.replicate k.toNat xs).flatten
/-- the new list xs, repeated -/
theorem y_rep {ws : List V} {xs : List α} {n : Int} (z : Zs ((p, .lst ws) :: rs) H Ho) (d : DL K Ho ws xs) (hg : repG xs n) (k : ∀ H' q ws', Zs ((q, .lst ws') :: rs) H' Ho → DL K Ho ws' (repL xs n) → Q (.ref q) H') : rRep (.ref p) (.int n) H Q :=
  ⟨p, n, ws, rfl, rfl, z.head, hg.1, hg.2.1, by rw [DL.len d]; exact hg.2.2, fun q hq => k _ q _ (z.root hq).sw1.tail (rep_dl d _)⟩
theorem y_lstk {vs : List V} {xs : List α} (z : Zs rs H Ho) (d : DL K Ho vs xs) (hl : vs.length ≤ sizeLine) (k : ∀ H' p ws, Zs ((p, .lst ws) :: rs) H' Ho → DL K Ho ws xs → Q (.ref p) H') : vs.length ≤ sizeLine ∧ ∀ p, H p = none → Q (.ref p) (upd H p (.lst vs)) :=
  ⟨hl, fun p hp => k _ p _ (z.root hp) d⟩
theorem y_tupk {vs : List V} {x : α} (z : Zs rs H Ho) (hl : vs.length ≤ sizeLine) (ds : List PyData) (hx : toPy x = .tuple ds) (d : DqAll K Ho vs ds) (k : ∀ p H' Ho', Same Ho Ho' → Zs rs H' Ho' → Z.D K Ho' (.ref p) x → Q (.ref p) H') :
    vs.length ≤ sizeLine ∧ ∀ p, H p = none → Q (.ref p) (upd H p (.tup vs)) :=
  ⟨hl, fun p hp => by
    have e3 : Same Ho (upd Ho p (.tup vs)) := Same.new (z.free hp)
    refine k p _ _ e3 (z.alloc hp) ?_
    show Dq K _ _ (toPy x)
    rw [hx]
    exact .tup upd_same (dpAll_mono e3 _ _ d)⟩
/-! ### statements -/
theorem y_asg (σ' : V → L2.St) (hσ : ∀ v, σ.set i (some v) = σ' v) (k : te σ H fun v H1 => u D (σ' v) H1) : tSeq (tAsg te (gName i)) u D σ H := by
  have e : (fun v H1 => u D (σ' v) H1) = fun v H1 => u D (σ.set i (some v)) H1 := by funext v H1; rw [hσ]
  rw [e] at k
  exact k
theorem y_asgG {g : TG} (k : te σ H fun v H1 => g v σ H1 fun σ' H' => u D σ' H') : tSeq (tAsg te g) u D σ H := k
theorem y_drop (k : te σ H fun _ H1 => u D σ H1) : tSeq (tDrop te) u D σ H := k
theorem y_ret (k : te σ H D.rt) : tSeq (tRet te) u D σ H := k
theorem y_retN (k : D.rt .non H) : tSeq tRetN u D σ H := k
theorem y_doc (k : u D σ H) : tSeq tNext u D σ H := k
theorem y_ifS (k : tt σ H fun b H1 => if b = true then t1 { D with nx := u D } σ H1 else t2 { D with nx := u D } σ H1) : tSeq (tIfS tt t1 t2) u D σ H := k
theorem y_cases {A B : W γ} {b : Bool} {X Y : Prop} (hw : (W.ite b A B).run Φ) (h1 : b = true → A.run Φ → X) (h2 : b = false → B.run Φ → Y) : if b = true then X else Y := by
  cases b with
  | true => exact iteT (h1 rfl (hw.1 rfl))
  | false => exact iteF (h2 rfl (hw.2 rfl))
theorem y_nx (k : D.nx σ H) : tNext D σ H := k
theorem run_ret {β : Type} {a : β} {Φ : β → Prop} (h : (W.ret a).run Φ) : Φ a := h
/-- a value gets a name -/
theorem y_let {e : β} {f : β → W γ} {G : Prop} (hw : (W.bind (W.ret e) f).run Φ) (P : β → Prop) (hp : P e) (k : ∀ x, P x → (f x).run Φ → G) : G := k e hp hw
theorem y_letI {e : Int} {f : Int → W γ} {G : V → Hp → Prop} (hw : (W.bind (W.ret e) f).run Φ) (k : ∀ x, (f x).run Φ → G (.int x) H) : G (.int e) H := k e hw
theorem y_letB {e : Bool} {f : Bool → W γ} {G : V → Hp → Prop} (hw : (W.bind (W.ret e) f).run Φ) (k : ∀ x, (f x).run Φ → G (.bl x) H) : G (.bl e) H := k e hw
theorem y_letS {e : Str} {f : Str → W γ} {G : V → Hp → Prop} (hw : (W.bind (W.ret e) f).run Φ) (k : ∀ x, (f x).run Φ → G (.str x) H) : G (.str e) H := k e hw
def apd {α : Type} (xs : List α) (x : α) : W (List α) := W.guard (xs.length < sizeLine) (W.ret (xs ++ [x]))
def exd {α : Type} (xs ys : List α) : W (List α) := W.guard (xs.length + ys.length ≤ sizeLine) (W.ret (xs ++ ys))
def sti {α : Type} (xs : List α) (i : Int) (y : α) : W (List α) := W.bind (W.opt (ixN xs.length i)) fun j => W.ret (xs.set j y)
theorem y_tyL {R : Prop} {n : Nat} {ws : List V} (z : Zs rs H Ho) (hn : rs[n]? = some (p, .lst ws)) (k : R) : tyV K "list" (.ref p) H ∧ R := ⟨.inl ⟨rfl, _, SqL.of (z.rt _ (List.mem_of_getElem? hn)).1⟩, k⟩
theorem y_app {n : Nat} {ws : List V} {xs : List α} {x : α} {f : List α → W γ} (z : Zs rs H Ho) (hn : rs[n]? = some (p, .lst ws)) (d : DL K Ho ws xs) (dx : Z.D K Ho w x) (hw : (W.bind (apd xs x) f).run Φ) (k : ∀ xs' ws' H', Zs (rs.set n (p, .lst ws')) H' Ho → DL K Ho ws' xs' → (f xs').run Φ → Q .non H') : rAppend (.ref p) [w] H Q := by
  have hp := z.rt _ (List.mem_of_getElem? hn)
  exact ⟨p, ws, w, rfl, rfl, hp.1, by rw [DL.len d]; exact hw.1, k _ _ _ (z.putI hn) (d.push dx) hw.2⟩
theorem y_ext {n m : Nat} {ws us : List V} {q : Addr} {xs ys : List α} {f : List α → W γ} (z : Zs rs H Ho) (hn : rs[n]? = some (p, .lst ws)) (hm : rs[m]? = some (q, .lst us)) (d : DL K Ho ws xs) (dx : DL K Ho us ys) (hw : (W.bind (exd xs ys) f).run Φ) (k : ∀ xs' ws' H', Zs (rs.set n (p, .lst ws')) H' Ho → DL K Ho ws' xs' → (f xs').run Φ → Q .non H') : rExtend (.ref p) [.ref q] H Q := by
  have hp := z.rt _ (List.mem_of_getElem? hn)
  have hq := z.rt _ (List.mem_of_getElem? hm)
  exact ⟨p, q, ws, us, rfl, rfl, hp.1, hq.1, by rw [DL.len d, DL.len dx]; exact hw.1, k _ _ _ (z.putI hn) (d.append dx) hw.2⟩
/-- xs.pop() -/
def popL {α : Type} (xs : List α) : W α := W.opt xs[xs.length - 1]?
theorem dpAll_dropLast {vs : List V} {ds : List PyData} (h : DqAll K H vs ds) : DqAll K H vs.dropLast ds.dropLast := by
  have hl := dpAll_len h
  rw [List.dropLast_eq_take, List.dropLast_eq_take, hl]
  exact dpAll_take h _
theorem y_pop {n : Nat} {ws : List V} {xs : List α} {f : α → W γ} (z : Zs rs H Ho) (hn : rs[n]? = some (p, .lst ws)) (d : DL K Ho ws xs) (hw : (W.bind (popL xs) f).run Φ) (k : ∀ t w ws' H', Zs (rs.set n (p, .lst ws')) H' Ho → DL K Ho ws' xs.dropLast → Z.D K Ho w t → (f t).run Φ → Q w H') : rPop (.ref p) [] H Q := by
  have hp := z.rt _ (List.mem_of_getElem? hn)
  obtain ⟨t, et, hw⟩ := hw
  rw [← DL.len d] at et
  obtain ⟨w, ew, dw⟩ := DL.get d et
  refine ⟨p, ws, w, rfl, rfl, hp.1, ew, k t w _ _ (z.putI hn) ?_ dw hw⟩
  show DqAll _ _ _ (xs.dropLast.map Py.toPy)
  rw [List.map_dropLast]
  exact dpAll_dropLast d
/-- xs.pop(i) -/
def popI {α : Type} (xs : List α) (i : Int) : W (α × List α) := W.guard (-(2 ^ 63) ≤ i ∧ i < 2 ^ 63) (W.bind (W.opt (ixN xs.length i)) fun j => W.bind (W.opt xs[j]?) fun x => W.ret (x, xs.eraseIdx j))
theorem ixN_seq {n : Nat} {i : Int} {j : Nat} (h : ixN n i = some j) : seqIndex? i n = some j := by
  unfold ixN at h
  by_cases c : 0 ≤ i
  · rw [if_pos c] at h
    split at h
    · rename_i hl
      have e : i.toNat = j := Option.some.inj h
      rw [seqIndex_of c (by omega)]
      exact h
    · cases h
  · rw [if_neg c] at h
    split at h
    · rename_i hl
      rw [seqIndex_neg (by omega) (by omega)]
      rw [← h]
    · cases h
theorem dpAll_erase {vs : List V} {ds : List PyData} (h : DqAll K H vs ds) (j : Nat) : DqAll K H (vs.eraseIdx j) (ds.eraseIdx j) := by
  induction vs generalizing ds j with
  | nil => cases h; exact .nil
  | cons u vs ih =>
    cases h with
    | cons h1 h2 =>
      cases j with
      | zero => exact h2
      | succ j => exact .cons h1 (ih h2 j)
theorem map_erase {α β : Type} (f : α → β) : ∀ (xs : List α) (j : Nat), (xs.eraseIdx j).map f = (xs.map f).eraseIdx j
  | [], _ => rfl
  | x :: xs, 0 => rfl
  | x :: xs, j + 1 => by simp [map_erase f xs j]
theorem y_popI {n : Nat} {ws : List V} {xs : List α} {i : Int} {f : α × List α → W γ} (z : Zs rs H Ho) (hn : rs[n]? = some (p, .lst ws)) (d : DL K Ho ws xs) (hw : (W.bind (popI xs i) f).run Φ) (k : ∀ t xs' w ws' H', Zs (rs.set n (p, .lst ws')) H' Ho → DL K Ho ws' xs' → Z.D K Ho w t → (f (t, xs')).run Φ → Q w H') : rPopAt (.ref p) [.int i] H Q := by
  have hp := z.rt _ (List.mem_of_getElem? hn)
  obtain ⟨⟨g1, g2⟩, j, ej, t, et, hw⟩ := hw
  obtain ⟨w, ew, dw⟩ := DL.get d et
  refine ⟨p, ws, i, j, w, rfl, rfl, hp.1, g1, g2, ixN_seq (by rw [DL.len d]; exact ej), ew, k t _ w _ _ (z.putI hn) ?_ dw hw⟩
  show DqAll _ _ _ ((xs.eraseIdx j).map Py.toPy)
  rw [map_erase]
  exact dpAll_erase d j
theorem y_gsub {to ti : TE} {t : TSet} {QS : L2.St → Hp → Prop} (k : to σ H fun o H1 => ti σ H1 fun i H2 => t o i v H2 fun H3 => QS σ H3) : gSub to ti t v σ H QS := k
theorem y_sti {n : Nat} {ws : List V} {xs : List α} {x : α} {i : Int} {QH : Hp → Prop} {f : List α → W γ} (z : Zs rs H Ho) (hn : rs[n]? = some (p, .lst ws)) (d : DL K Ho ws xs) (dx : Z.D K Ho w x) (hw : (W.bind (sti xs i x) f).run Φ) (k : ∀ xs' ws' H', Zs (rs.set n (p, .lst ws')) H' Ho → DL K Ho ws' xs' → (f xs').run Φ → QH H') : rSetL (.ref p) (.int i) w H QH := by
  have hp := z.rt _ (List.mem_of_getElem? hn)
  obtain ⟨j, ej, hw⟩ := hw
  exact ⟨p, ws, i, j, rfl, rfl, hp.1, by rw [DL.len d]; exact ej, k _ _ _ (z.putI hn) (DL.set d dx j) hw⟩
theorem y_augS {to ti : TE} {tget : V → V → Hp → VK → Prop} {tip : TIp} {tset : TSet} (k : to σ H fun o H1 => ti σ H1 fun i H2 => tget o i H2 fun x H3 => te σ H3 fun y H4 => tip x y H4 fun z H5 => tset o i z H5 fun H6 => u D σ H6) : tSeq (tAugS to ti te tget tip tset) u D σ H := k
theorem y_ip {f : Int → Int → Int} {a b : Int} (k : Q (.int (f a b)) H) : ipI f (.int a) (.int b) H Q := ⟨a, b, rfl, rfl, k⟩
theorem y_aug (σ' : V → L2.St) {tip : TIp} (h : σ[i]? = some (some v)) (hσ : ∀ v, σ.set i (some v) = σ' v) (k : te σ H fun y H1 => tip v y H1 fun z H2 => u D (σ' z) H2) : tSeq (tAug i te tip) u D σ H := by
  have e : (fun z H2 => u D (σ' z) H2) = fun z H2 => u D (σ.set i (some z)) H2 := by funext v H1; rw [hσ]
  refine ⟨v, h, ?_⟩
  rw [e] at k
  exact k
end
end Z

/-! # Y2: what is walked, loops, comprehensions, joins, errors, built-ins -/
namespace Z
open PySem PySem.Spec PyProof.Rows L2

/-! ### what is walked -/
def rng (a b : Int) : List Int := (List.range (b - a).toNat).map fun k : Nat => a + k
def rngD (a b : Int) : List Int := (List.range (a - b).toNat).map fun k : Nat => a - k
def enumZ {α : Type} (xs : List α) : List (Int × α) := (rng 0 xs.length).zip xs
def enumS {α : Type} (n : Int) (xs : List α) : List (Int × α) := (rng n (n + xs.length)).zip xs
def rngOk (a b : Int) : Prop := -(2 ^ 62) ≤ a ∧ a < 2 ^ 62 ∧ -(2 ^ 62) ≤ b ∧ b < 2 ^ 62
/-- the turns of an iterator, by the items' data -/
def Trn {α : Type} [Py α] (K : PySem.W.Frag) (r0 : List (Addr × HO)) (J : It) (xs : List α) (Ho2 : Hp) : Prop :=
  ∀ i rs' H' Ho', Same Ho2 Ho' → Zs rs' H' Ho' → (∀ r ∈ r0, r ∈ rs') → (∀ a, xs[i]? = some a → J.go i H' ∧ ∀ x H'', J.yld i H' x H'' → ∃ Ho'', Same Ho' Ho'' ∧ (∀ rs, Zs rs H' Ho' → Zs rs H'' Ho'') ∧ D K Ho'' x a) ∧ (xs.length ≤ i → J.stop i H')
section
variable {K : PySem.W.Frag} {rs r0 : List (Addr × HO)} {σ : L2.St} {H Ho : Hp} {ta tb tc te tl : TE} {tt tu : TT} {α β γ : Type} [Py α] [Py β] {p : Addr} {Φ : γ → Prop} {R : It → Hp → Prop} {v u : V}
theorem src_stay {q : Addr} {ys : List V} {rs' : List (Addr × HO)} {H Ho' : Hp} (s : SqL K Ho q ys ∨ (q, HO.lst ys) ∈ rs) (e : Same Ho Ho') (z : Zs rs' H Ho') (sub : ∀ r ∈ rs, r ∈ rs') : SqL K H q ys := by
  rcases s with s | s
  · exact z.le.seq (e.seq s)
  · exact SqL.of (z.rt _ (sub _ s)).1
theorem trn_list {q : Addr} {xs : List α} {v : V} (h : LV K r0 Ho v xs) (hv : v = .ref q) : Trn K r0 (Itl K q) xs Ho := by
  intro i rs' H' Ho' e z sub
  obtain ⟨q', ys, rfl, d, s⟩ := h
  cases hv
  have sq : SqL K H' q ys := src_stay s e z sub
  refine ⟨fun a ha => ?_, fun hl => ⟨ys, sq, by rw [d.len]; exact hl⟩⟩
  obtain ⟨w, ew, dw⟩ := d.get ha
  refine ⟨⟨ys, w, sq, ew⟩, fun x H'' y => ?_⟩
  obtain ⟨rfl, y⟩ := y
  have ex : x = w := Option.some.inj ((y _ sq).symm.trans ew)
  subst ex
  exact ⟨Ho', Same.refl _, fun _ z => z, D.mo dw e⟩
theorem y_iList (k : te σ H fun x H1 => ∃ a, x = .ref a ∧ (∃ xs, SqL K H1 a xs) ∧ R (Itl K a) H1) : iList K te σ H R := k
theorem y_srcL {xs : List α} (d : LV K r0 Ho v xs) (hs : ∀ r ∈ r0, r ∈ rs) (z : Zs rs H Ho) (k : ∀ J, Trn K r0 J xs Ho → R J H) : ∃ a, v = .ref a ∧ (∃ ys, SqL K H a ys) ∧ R (Itl K a) H := by
  obtain ⟨q, ys, rfl, dd, s⟩ := id d
  exact ⟨q, rfl, ⟨ys, src_stay s (Same.refl _) z hs⟩, k _ (trn_list d rfl)⟩
theorem trn_tup {q : Addr} {xs : List α} {ys : List V} (s : Ho q = some (.tup ys)) (d : DL K Ho ys xs) : Trn K [] (Itt K q) xs Ho := by
  intro i rs' H' Ho' e z sub
  have sq : SqT K H' q ys := SqT.of (z.le _ _ (e _ _ s))
  refine ⟨fun a ha => ?_, fun hl => ⟨ys, sq, by rw [d.len]; exact hl⟩⟩
  obtain ⟨w, ew, dw⟩ := d.get ha
  refine ⟨⟨ys, w, sq, ew⟩, fun x H'' y => ?_⟩
  obtain ⟨rfl, y⟩ := y
  have ex : x = w := Option.some.inj ((y _ sq).symm.trans ew)
  subst ex
  exact ⟨Ho', Same.refl _, fun _ z => z, D.mo dw e⟩
theorem y_iTup (k : te σ H fun x H1 => ∃ a, x = .ref a ∧ (∃ xs, SqT K H1 a xs) ∧ R (Itt K a) H1) : iTup K te σ H R := k
/-- over a tuple of things of one kind -/
theorem y_srcT {x : β} {xs : List α} (d : D K Ho v x) (hf : toPy x = .tuple (xs.map Py.toPy)) (z : Zs rs H Ho) (k : ∀ J, Trn K [] J xs Ho → R J H) : ∃ a, v = .ref a ∧ (∃ ys, SqT K H a ys) ∧ R (Itt K a) H := by
  have d : Dq K Ho v (toPy x) := d
  rw [hf] at d
  cases d with
  | tup hs ha => exact ⟨_, rfl, ⟨_, SqT.of (z.le _ _ hs)⟩, k _ (trn_tup hs ha)⟩
theorem rng_get {a b : Int} {i : Nat} {x : Int} (h : (rng a b)[i]? = some x) : i < (b - a).toNat ∧ x = a + i := by
  unfold rng at h
  rw [List.getElem?_map] at h
  cases e : (List.range (b - a).toNat)[i]? with
  | none => rw [e] at h; cases h
  | some k =>
    rw [e] at h
    obtain ⟨hl, ek⟩ := List.getElem?_eq_some_iff.mp e
    rw [List.getElem_range] at ek
    subst ek
    rw [List.length_range] at hl
    exact ⟨hl, (Option.some.inj h).symm⟩
theorem rng_len {a b : Int} : (rng a b).length = (b - a).toNat := by unfold rng; simp
theorem trn_range {a b : Int} : Trn K [] (Itr a (b - a).toNat) (rng a b) Ho := by
  intro i rs' H' Ho' e z sub
  refine ⟨fun x hx => ?_, fun hl => ?_⟩
  · obtain ⟨hi, rfl⟩ := rng_get hx
    refine ⟨hi, fun y H'' yy => ?_⟩
    obtain ⟨rfl, rfl⟩ := yy
    exact ⟨Ho', Same.refl _, fun _ z => z, .int _⟩
  · rw [rng_len] at hl
    exact hl
theorem y_iR1 {ts : TA} (k : ts σ H fun vs H1 => ∃ j : Int, vs = [.int j] ∧ -(2 ^ 62) ≤ j ∧ j < 2 ^ 62 ∧ R (Itr 0 j.toNat) H1) : iRng1 ts σ H R := k
theorem y_iR2 {ts : TA} (k : ts σ H fun vs H1 => ∃ i j : Int, vs = [.int i, .int j] ∧ (-(2 ^ 62) ≤ i ∧ i < 2 ^ 62 ∧ -(2 ^ 62) ≤ j ∧ j < 2 ^ 62) ∧ R (Itr i (j - i).toNat) H1) : iRng2 ts σ H R := k
theorem y_srcR1 {n : Int} (hg : rngOk 0 n) (k : ∀ J, Trn K [] J (rng 0 n) Ho → R J H) : ∃ j : Int, [V.int n] = [.int j] ∧ -(2 ^ 62) ≤ j ∧ j < 2 ^ 62 ∧ R (Itr 0 j.toNat) H := by
  refine ⟨n, rfl, hg.2.2.1, hg.2.2.2, ?_⟩
  have e : n.toNat = (n - 0).toNat := by rw [Int.sub_zero]
  rw [e]
  exact k _ trn_range
theorem y_srcR2 {a b : Int} (hg : rngOk a b) (k : ∀ J, Trn K [] J (rng a b) Ho → R J H) : ∃ i j : Int, [V.int a, V.int b] = [.int i, .int j] ∧ (-(2 ^ 62) ≤ i ∧ i < 2 ^ 62 ∧ -(2 ^ 62) ≤ j ∧ j < 2 ^ 62) ∧ R (Itr i (j - i).toNat) H :=
  ⟨a, b, rfl, hg, k _ trn_range⟩
theorem trn_rangeD {a b : Int} : Trn K [] (Itc a (-1) (a - b).toNat) (rngD a b) Ho := by
  intro i rs' H' Ho' e z sub
  refine ⟨fun x hx => ?_, fun hl => ?_⟩
  · unfold rngD at hx
    rw [List.getElem?_map] at hx
    cases q : (List.range (a - b).toNat)[i]? with
    | none => rw [q] at hx; cases hx
    | some k =>
      rw [q] at hx
      obtain ⟨hl, ek⟩ := List.getElem?_eq_some_iff.mp q
      rw [List.getElem_range] at ek
      subst ek
      rw [List.length_range] at hl
      have ex : x = a - i := (Option.some.inj hx).symm
      subst ex
      refine ⟨hl, fun y H'' yy => ?_⟩
      obtain ⟨rfl, rfl⟩ := yy
      have q2 : a + (i : Int) * -1 = a - i := by omega
      rw [q2]
      exact ⟨Ho', Same.refl _, fun _ z => z, .int _⟩
  · unfold rngD at hl
    rw [List.length_map, List.length_range] at hl
    exact hl
theorem trn_zip {a b : Addr} {xs : List α} {ys : List β} {v u : V} (h : LV K r0 Ho v xs) (hv : v = .ref a) (h' : LV K r0 Ho u ys) (hu : u = .ref b) : Trn K r0 (Itz K a b) (xs.zip ys) Ho := by
  intro i rs' H' Ho' e z sub
  obtain ⟨a', vs, rfl, d, s⟩ := h
  obtain ⟨b', us, rfl, d', s'⟩ := h'
  cases hv
  cases hu
  have sa : SqL K H' a vs := src_stay s e z sub
  have sb : SqL K H' b us := src_stay s' e z sub
  refine ⟨fun p hp => ?_, fun hl => ⟨vs, us, sa, sb, ?_⟩⟩
  · obtain ⟨hx, hy⟩ := List.getElem?_zip_eq_some.mp hp
    obtain ⟨x, ex, dx⟩ := d.get hx
    obtain ⟨y, ey, dy⟩ := d'.get hy
    refine ⟨⟨vs, us, x, y, sa, sb, ex, ey⟩, fun t H'' yy => ?_⟩
    obtain ⟨T, x', y', rfl, hT, rfl, qx, qy⟩ := yy
    have e1 : x' = x := Option.some.inj ((qx _ sa).symm.trans ex)
    have e2 : y' = y := Option.some.inj ((qy _ sb).symm.trans ey)
    subst e1 e2
    have e3 : Same Ho' (upd Ho' T (.tup [x', y'])) := Same.new (z.free hT)
    exact ⟨_, e3, fun _ z => z.alloc hT, .tup upd_same (.cons (D.mo (D.mo dx e) e3) (.cons (D.mo (D.mo dy e) e3) .nil))⟩
  · rw [List.length_zip] at hl
    rw [d.len, d'.len]
    omega
theorem trn_enum {a : Addr} {xs : List α} {v : V} (h : LV K r0 Ho v xs) (hv : v = .ref a) : Trn K r0 (Ite K a) (enumZ xs) Ho := by
  intro i rs' H' Ho' e z sub
  obtain ⟨a', vs, rfl, d, s⟩ := h
  cases hv
  have sa : SqL K H' a vs := src_stay s e z sub
  refine ⟨fun p hp => ?_, fun hl => ⟨vs, sa, ?_⟩⟩
  · obtain ⟨hx, hy⟩ := List.getElem?_zip_eq_some.mp hp
    obtain ⟨_, hx⟩ := rng_get hx
    obtain ⟨y, ey, dy⟩ := d.get hy
    refine ⟨⟨vs, y, sa, ey⟩, fun t H'' yy => ?_⟩
    obtain ⟨T, y', rfl, hT, rfl, qy⟩ := yy
    have e2 : y' = y := Option.some.inj ((qy _ sa).symm.trans ey)
    subst e2
    have e3 : Same Ho' (upd Ho' T (.tup [.int (i : Nat), y'])) := Same.new (z.free hT)
    obtain ⟨p1, p2⟩ := p
    dsimp only at hx
    rw [Int.zero_add] at hx
    subst hx
    exact ⟨_, e3, fun _ z => z.alloc hT, .tup upd_same (.cons (.int _) (.cons (D.mo (D.mo dy e) e3) .nil))⟩
  · unfold enumZ at hl
    rw [List.length_zip, rng_len] at hl
    rw [d.len]
    omega
theorem trn_rev {a : Addr} {xs : List α} {v : V} (h : LV K r0 Ho v xs) (hv : v = .ref a) : Trn K r0 (Itv K a xs.length) xs.reverse Ho := by
  intro i rs' H' Ho' e z sub
  obtain ⟨a', vs, rfl, d, s⟩ := h
  cases hv
  have sa : SqL K H' a vs := src_stay s e z sub
  have hl := d.len
  refine ⟨fun p hp => ?_, fun hl => by rw [List.length_reverse] at hl; exact hl⟩
  have hi : i < xs.length := by
    have := (List.getElem?_eq_some_iff.mp hp).1
    rwa [List.length_reverse] at this
  rw [List.getElem?_reverse hi] at hp
  obtain ⟨x, ex, dx⟩ := d.get hp
  refine ⟨⟨hi, vs, x, sa, ex⟩, fun t H'' yy => ?_⟩
  obtain ⟨rfl, qx⟩ := yy
  have e1 : t = x := Option.some.inj ((qx _ sa).symm.trans ex)
  subst e1
  exact ⟨Ho', Same.refl _, fun _ z => z, D.mo dx e⟩
section
variable {ts : TA}
theorem y_iR3 (k : ts σ H fun vs H1 => ∃ (a b c : Int) (n : Nat), vs = [.int a, .int b, .int c] ∧ RgC a b c n ∧ R (Itc a c n) H1) : iRng3 ts σ H R := k
theorem y_srcR3 {a b : Int} (hg : rngOk b a) (k : ∀ J, Trn K [] J (rngD a b) Ho → R J H) : ∃ (a' b' c : Int) (n : Nat), [V.int a, V.int b, V.int (-1)] = [.int a', .int b', .int c] ∧ RgC a' b' c n ∧ R (Itc a' c n) H :=
  ⟨a, b, -1, _, rfl, RgC.neg hg.2.2.1 hg.2.2.2 hg.1 hg.2.1, k _ trn_rangeD⟩
theorem y_iZip (k : ts σ H fun vs H1 => ∃ a b xs ys, vs = [.ref a, .ref b] ∧ SqL K H1 a xs ∧ SqL K H1 b ys ∧ R (Itz K a b) H1) : iZip K ts σ H R := k
theorem y_srcZ {xs : List α} {ys : List β} (d : LV K r0 Ho v xs) (d' : LV K r0 Ho u ys) (hs : ∀ r ∈ r0, r ∈ rs) (z : Zs rs H Ho) (k : ∀ J, Trn K r0 J (xs.zip ys) Ho → R J H) : ∃ a b xs ys, [v, u] = [.ref a, .ref b] ∧ SqL K H a xs ∧ SqL K H b ys ∧ R (Itz K a b) H := by
  obtain ⟨a', vs, rfl, dd, s⟩ := id d
  obtain ⟨b', us, rfl, dd', s'⟩ := id d'
  exact ⟨a', b', vs, us, rfl, src_stay s (Same.refl _) z hs, src_stay s' (Same.refl _) z hs, k _ (trn_zip d rfl d' rfl)⟩
theorem y_iEnum (k : ts σ H fun vs H1 => ∃ a xs, vs = [.ref a] ∧ SqL K H1 a xs ∧ R (Ite K a) H1) : iEnum K ts σ H R := k
theorem y_srcE {xs : List α} (d : LV K r0 Ho v xs) (hs : ∀ r ∈ r0, r ∈ rs) (z : Zs rs H Ho) (k : ∀ J, Trn K r0 J (enumZ xs) Ho → R J H) : ∃ a xs, [v] = [.ref a] ∧ SqL K H a xs ∧ R (Ite K a) H := by
  obtain ⟨a', vs, rfl, dd, s⟩ := id d
  exact ⟨a', vs, rfl, src_stay s (Same.refl _) z hs, k _ (trn_enum d rfl)⟩
theorem y_iRev (k : ts σ H fun vs H1 => ∃ a xs, vs = [.ref a] ∧ SqL K H1 a xs ∧ R (Itv K a xs.length) H1) : iRev K ts σ H R := k
theorem y_srcV {xs : List α} (d : LV K r0 Ho v xs) (hs : ∀ r ∈ r0, r ∈ rs) (z : Zs rs H Ho) (k : ∀ J, Trn K r0 J xs.reverse Ho → R J H) : ∃ a xs, [v] = [.ref a] ∧ SqL K H a xs ∧ R (Itv K a xs.length) H := by
  obtain ⟨a', vs, rfl, dd, s⟩ := id d
  exact ⟨a', vs, rfl, src_stay s (Same.refl _) z hs, by rw [dd.len]; exact k _ (trn_rev d rfl)⟩
end
/-! ### loops -/
theorem drop_cons {γ : Type} {xs : List γ} {i : Nat} {x : γ} (h : xs[i]? = some x) : xs.drop i = x :: xs.drop (i + 1) := by
  obtain ⟨hi, e⟩ := List.getElem?_eq_some_iff.mp h
  rw [List.drop_eq_getElem_cons hi, e]
def ForG (g : TG) (tb u : TS) (D : Ends) (σ : L2.St) (J : It) (H1 : Hp) : Prop := ∃ W : Nat → Nat → L2.St → Hp → Prop, (∃ m, W 0 m σ H1) ∧ ∀ i m σ H, W i m σ H →
  (J.stop i H ∧ u D σ H) ∨ (J.go i H ∧ ∃ N : L2.St → Hp → Prop, (∀ σ' H', N σ' H' → ∃ m', m' < m ∧ W (i + 1) m' σ' H') ∧ ∀ x H', J.yld i H x H' → g x σ H' fun σ2 H2 => tb { D with nx := N, ct := N, bk := u D } σ2 H2)
variable {g : TG} {u1 tb' : TS} {D : Ends}
theorem y_for {wi_ : TI} (k : wi_ σ H fun J H1 => ForG g tb' u1 D σ J H1) : tSeq (tFor wi_ g tb') u1 D σ H := k
theorem y_forL {S : Type} {J : It} {xs : List α} {s0 : S} {body : α → S → W S} {f : S → W γ} (T : Trn K r0 J xs Ho) (hw : (W.bind (W.forL xs s0 body) f).run Φ) (I : S → L2.St → Hp → Hp → Prop) (i0 : I s0 σ H Ho)
    (hz : ∀ s σ' H' Ho', I s σ' H' Ho' → ∃ rs', Zs rs' H' Ho' ∧ ∀ r ∈ r0, r ∈ rs')
    (im : ∀ s σ' H' Ho' H'' Ho'', I s σ' H' Ho' → Same Ho' Ho'' → (∀ rs, Zs rs H' Ho' → Zs rs H'' Ho'') → I s σ' H'' Ho'')
    (step : ∀ a x s σ' H' Ho' (N : L2.St → Hp → Prop), Same Ho Ho' → I s σ' H' Ho' → Z.D K Ho' x a → (body a s).run (fun s' => ∀ σ'' H'' Ho'', Same Ho' Ho'' → I s' σ'' H'' Ho'' → N σ'' H'') → g x σ' H' fun σ2 H2 => tb' { D with nx := N, ct := N, bk := u1 D } σ2 H2)
    (done : ∀ s σ' H' Ho', Same Ho Ho' → I s σ' H' Ho' → (f s).run Φ → u1 D σ' H') : ForG g tb' u1 D σ J H := by
  refine ⟨fun i m σ' H' => m = xs.length - i ∧ i ≤ xs.length ∧ ∃ s Ho', Same Ho Ho' ∧ I s σ' H' Ho' ∧ (W.bind (W.forL (xs.drop i) s body) f).run Φ, ⟨xs.length, by simp, Nat.zero_le _, s0, Ho, Same.refl _, i0, hw⟩, ?_⟩
  rintro i m σ' H' ⟨rfl, hi, s, Ho', e', hI, hw⟩
  obtain ⟨rs', z', sub⟩ := hz s σ' H' Ho' hI
  have tr := T i rs' H' Ho' e' z' sub
  by_cases hlt : i < xs.length
  · refine .inr ?_
    have hxi := List.getElem?_eq_getElem hlt
    obtain ⟨go, yl⟩ := tr.1 _ hxi
    rw [drop_cons hxi] at hw
    refine ⟨go, fun σ'' H'' => ∃ s' Ho'', Same Ho Ho'' ∧ I s' σ'' H'' Ho'' ∧ (W.bind (W.forL (xs.drop (i + 1)) s' body) f).run Φ, fun σ'' H'' hN => ⟨xs.length - (i + 1), by omega, rfl, hlt, hN⟩, fun x H'' y => ?_⟩
    obtain ⟨Ho3, e3, z3, dx⟩ := yl x H'' y
    refine step _ x s σ' H'' Ho3 _ (e'.trans e3) (im _ _ _ _ _ _ hI e3 z3) dx ?_
    exact W.mono _ _ _ (fun s' hs' σ4 H4 Ho4 e4 hI4 => ⟨s', Ho4, (e'.trans e3).trans e4, hI4, hs'⟩) (show (body xs[i] s).run (fun s' => (W.bind (W.forL (xs.drop (i + 1)) s' body) f).run Φ) from hw)
  · have e : i = xs.length := by omega
    subst e
    rw [List.drop_length] at hw
    exact .inl ⟨tr.2 (Nat.le_refl _), done s σ' H' Ho' e' hI hw⟩
theorem y_forC {S ρ : Type} {J : It} {xs : List α} {s0 : S} {body : α → S → W (Ctl ρ S)} {f : S → W ρ} {Φ : ρ → Prop} (T : Trn K r0 J xs Ho) (hw : (W.bind (W.forC xs s0 body) fun c => W.after c f).run Φ) (I : S → L2.St → Hp → Hp → Prop) (i0 : I s0 σ H Ho)
    (hz : ∀ s σ' H' Ho', I s σ' H' Ho' → ∃ rs', Zs rs' H' Ho' ∧ ∀ r ∈ r0, r ∈ rs')
    (im : ∀ s σ' H' Ho' H'' Ho'', I s σ' H' Ho' → Same Ho' Ho'' → (∀ rs, Zs rs H' Ho' → Zs rs H'' Ho'') → I s σ' H'' Ho'')
    (step : ∀ a x s σ' H' Ho' (N B : L2.St → Hp → Prop), Same Ho Ho' → I s σ' H' Ho' → Z.D K Ho' x a → (body a s).run (CtlP (fun s' => ∀ σ'' H'' Ho'', Same Ho' Ho'' → I s' σ'' H'' Ho'' → N σ'' H'') (fun s' => ∀ σ'' H'' Ho'', Same Ho' Ho'' → I s' σ'' H'' Ho'' → B σ'' H'') Φ) → g x σ' H' fun σ2 H2 => tb' { D with nx := N, ct := N, bk := B } σ2 H2)
    (done : ∀ s σ' H' Ho', Same Ho Ho' → I s σ' H' Ho' → (f s).run Φ → u1 D σ' H') : ForG g tb' u1 D σ J H := by
  refine ⟨fun i m σ' H' => m = xs.length - i ∧ i ≤ xs.length ∧ ∃ s Ho', Same Ho Ho' ∧ I s σ' H' Ho' ∧ (W.bind (W.forC (xs.drop i) s body) fun c => W.after c f).run Φ, ⟨xs.length, by simp, Nat.zero_le _, s0, Ho, Same.refl _, i0, hw⟩, ?_⟩
  rintro i m σ' H' ⟨rfl, hi, s, Ho', e', hI, hw⟩
  obtain ⟨rs', z', sub⟩ := hz s σ' H' Ho' hI
  have tr := T i rs' H' Ho' e' z' sub
  by_cases hlt : i < xs.length
  · refine .inr ?_
    have hxi := List.getElem?_eq_getElem hlt
    obtain ⟨go, yl⟩ := tr.1 _ hxi
    rw [drop_cons hxi] at hw
    refine ⟨go, fun σ'' H'' => ∃ s' Ho'', Same Ho Ho'' ∧ I s' σ'' H'' Ho'' ∧ (W.bind (W.forC (xs.drop (i + 1)) s' body) fun c => W.after c f).run Φ, fun σ'' H'' hN => ⟨xs.length - (i + 1), by omega, rfl, hlt, hN⟩, fun x H'' y => ?_⟩
    obtain ⟨Ho3, e3, z3, dx⟩ := yl x H'' y
    refine step _ x s σ' H'' Ho3 _ (u1 D) (e'.trans e3) (im _ _ _ _ _ _ hI e3 z3) dx ?_
    refine W.mono _ _ _ (fun c hc => ?_) (show (body xs[i] s).run _ from hw)
    cases c with
    | nx s' => exact fun σ4 H4 Ho4 e4 hI4 => ⟨s', Ho4, (e'.trans e3).trans e4, hI4, hc⟩
    | bk s' => exact fun σ4 H4 Ho4 e4 hI4 => done s' σ4 H4 Ho4 ((e'.trans e3).trans e4) hI4 hc
    | rt r => exact hc
  · have e : i = xs.length := by omega
    subst e
    rw [List.drop_length] at hw
    exact .inl ⟨tr.2 (Nat.le_refl _), done s σ' H' Ho' e' hI hw⟩
theorem y_while {S ρ : Type} {s0 : S} {body : S → W (Ctl ρ S)} {f : S → W ρ} {Φ : ρ → Prop} (hw : (W.bind (W.whileL s0 body) fun c => W.after c f).run Φ) (I : S → L2.St → Hp → Hp → Prop) (i0 : I s0 σ H Ho)
    (step : ∀ s σ' H' Ho' (N B : L2.St → Hp → Prop) (E : (L2.St → Hp → Prop) → Prop), E N → Same Ho Ho' → I s σ' H' Ho' → (body s).run (CtlP (fun s' => ∀ σ'' H'' Ho'', Same Ho' Ho'' → I s' σ'' H'' Ho'' → N σ'' H'') (fun s' => ∀ σ'' H'' Ho'', Same Ho' Ho'' → I s' σ'' H'' Ho'' → B σ'' H'') Φ) →
      tt σ' H' fun b H1 => if b = true then ∃ N, E N ∧ tb' { D with nx := N, ct := N, bk := B } σ' H1 else B σ' H1)
    (done : ∀ s σ' H' Ho', Same Ho Ho' → I s σ' H' Ho' → (f s).run Φ → u1 D σ' H') : tSeq (tWhile tt tb') u1 D σ H := by
  obtain ⟨n, hw⟩ := hw
  refine ⟨fun m σ' H' => ∃ s Ho', Same Ho Ho' ∧ I s σ' H' Ho' ∧ (W.bind (W.whileN m s body) fun c => W.after c f).run Φ, ⟨n, s0, Ho, Same.refl _, i0, hw⟩, ?_⟩
  rintro m σ' H' ⟨s, Ho', e', hI, hw⟩
  cases m with
  | zero => exact hw.elim
  | succ m =>
    refine step s σ' H' Ho' (fun σ'' H'' => ∃ s' Ho'', Same Ho Ho'' ∧ I s' σ'' H'' Ho'' ∧ (W.bind (W.whileN m s' body) fun c => W.after c f).run Φ) (u1 D) (fun N => ∀ σ' H', N σ' H' → ∃ m', m' < m + 1 ∧ ∃ s Ho', Same Ho Ho' ∧ I s σ' H' Ho' ∧ (W.bind (W.whileN m' s body) fun c => W.after c f).run Φ) (fun σ2 H2 h2 => ⟨m, Nat.lt_succ_self _, h2⟩) e' hI ?_
    refine W.mono _ _ _ (fun c hc => ?_) (show (body s).run _ from hw)
    cases c with
    | nx s' => exact fun σ4 H4 Ho4 e4 hI4 => ⟨s', Ho4, e'.trans e4, hI4, hc⟩
    | bk s' => exact fun σ4 H4 Ho4 e4 hI4 => done s' σ4 H4 Ho4 (e'.trans e4) hI4 hc
    | rt r => exact hc
end
end Z

/-! # Y3: targets, comprehensions, joins, errors, built-ins -/
namespace Z
open PySem PySem.Spec PyProof.Rows L2
section
variable {K : PySem.W.Frag} {rs r0 : List (Addr × HO)} {σ : L2.St} {H Ho : Hp} {ta tb tc te tl : TE} {tt tu : TT} {α β γ : Type} [Py α] [Py β] {p : Addr} {Φ : γ → Prop} {Q : VK} {v u : V}
/-! ### targets -/
theorem y_gname {i : Nat} {x : V} {σ σ' : L2.St} {Q : L2.St → Hp → Prop} (hs : σ.set i (some x) = σ') (h : Q σ' H) : gName i x σ H Q := by
  show Q _ H
  rw [hs]
  exact h
theorem y_gt2 {i j : Nat} {x : V} {σ : L2.St} {Q : L2.St → Hp → Prop} {a : α × β} (d : D K Ho x a) (z : Zs rs H Ho) (k : ∀ v u, D K Ho v a.1 → D K Ho u a.2 → Q ((σ.set i (some v)).set j (some u)) H) : gTup K 2 (gCons (gName i) (gCons (gName j) gNil)) x σ H Q := by
  cases d with
  | tup hs ha =>
    cases ha with
    | cons h1 h2 =>
      cases h2 with
      | cons h2 h3 =>
        cases h3
        exact ⟨_, _, rfl, SqT.of (z.le _ _ hs), rfl, _, _, rfl, _, _, rfl, rfl, k _ _ h1 h2⟩
theorem y_gt3 {δ : Type} [Py δ] {i j l : Nat} {x : V} {σ : L2.St} {Q : L2.St → Hp → Prop} {a : P3 α β δ} (d : D K Ho x a) (z : Zs rs H Ho) (k : ∀ v u w, D K Ho v a.a → D K Ho u a.b → D K Ho w a.c → Q (((σ.set i (some v)).set j (some u)).set l (some w)) H) :
    gTup K 3 (gCons (gName i) (gCons (gName j) (gCons (gName l) gNil))) x σ H Q := by
  cases d with
  | tup hs ha =>
    cases ha with
    | cons h1 h2 =>
      cases h2 with
      | cons h2 h3 =>
        cases h3 with
        | cons h3 h4 =>
          cases h4
          exact ⟨_, _, rfl, SqT.of (z.le _ _ hs), rfl, _, _, rfl, _, _, rfl, _, _, rfl, rfl, k _ _ _ h1 h2 h3⟩
theorem y_gt4 {δ ε : Type} [Py δ] [Py ε] {i j l m : Nat} {x : V} {σ : L2.St} {Q : L2.St → Hp → Prop} {a : P4 α β δ ε} (d : D K Ho x a) (z : Zs rs H Ho) (k : ∀ v u w t, D K Ho v a.a → D K Ho u a.b → D K Ho w a.c → D K Ho t a.d → Q ((((σ.set i (some v)).set j (some u)).set l (some w)).set m (some t)) H) :
    gTup K 4 (gCons (gName i) (gCons (gName j) (gCons (gName l) (gCons (gName m) gNil)))) x σ H Q := by
  cases d with
  | tup hs ha =>
    cases ha with
    | cons h1 h2 =>
      cases h2 with
      | cons h2 h3 =>
        cases h3 with
        | cons h3 h4 =>
          cases h4 with
          | cons h4 h5 =>
            cases h5
            exact ⟨_, _, rfl, SqT.of (z.le _ _ hs), rfl, _, _, rfl, _, _, rfl, _, _, rfl, _, _, rfl, rfl, k _ _ _ _ h1 h2 h3 h4⟩
/-! ### comprehensions -/
def comp {α β : Type} : List α → List β → (α → W Bool) → (α → W β) → W (List β)
  | [], acc, _, _ => W.ret acc
  | x :: xs, acc, t, f => W.bind (t x) fun b => W.ite b (W.bind (f x) fun y => comp xs (acc ++ [y]) t f) (comp xs acc t f)
def compG {α β : Type} (xs : List α) (t : α → W Bool) (f : α → W β) : W (List β) := W.guard (xs.length ≤ sizeLine) (comp xs [] t f)
/-- with a state -/
def compS {α β S : Type} : List α → List β → S → (α → S → W (Option β × S)) → W (List β × S)
  | [], acc, s, _ => W.ret (acc, s)
  | x :: xs, acc, s, f => W.bind (f x s) fun r => match r.1 with
    | none => compS xs acc r.2 f
    | some y => compS xs (acc ++ [y]) r.2 f
def compSG {α β S : Type} (xs : List α) (s : S) (f : α → S → W (Option β × S)) : W (List β × S) := W.guard (xs.length ≤ sizeLine) (compS xs [] s f)
def LcG (g : TG) (tt : TT) (te : TE) (vs : List Nat) (σ : L2.St) (Q : VK) (J : It) (H1 : Hp) : Prop := ∀ D, H1 D = none → ∃ W : Nat → Nat → Hp → Prop, (∃ m, W 0 m (upd H1 D (.lst []))) ∧ ∀ i m H, W i m H →
  (J.stop i H ∧ Q (.ref D) H) ∨ (J.go i H ∧ ∃ Nx : Hp → Prop, (∀ H', Nx H' → ∃ m', m' < m ∧ W (i + 1) m' H') ∧ ∀ x H', J.yld i H x H' → g x (wipe σ vs) H' fun σ2 H2 => wipe σ2 vs = wipe σ vs ∧ tt σ2 H2 fun b H3 =>
    if b = true then te σ2 H3 fun y H4 => ∃ acc, H4 D = some (.lst acc) ∧ acc.length < sizeLine ∧ Nx (upd H4 D (.lst (acc ++ [y]))) else Nx H3)
variable {g : TG} {vs : List Nat} {wi : TI}
theorem y_lc (k : wi σ H fun J H1 => LcG g tt te vs σ Q J H1) : tLc wi g tt te vs σ H Q := k
theorem y_yes {QB : Bool → Hp → Prop} (k : QB true H) : tYes σ H QB := k
theorem y_lcG {J : It} {xs : List α} {ct : α → W Bool} {cf : α → W β} {f : List β → W γ} (z : Zs rs H Ho) (hr : ∀ r ∈ r0, r ∈ rs) (T : Trn K r0 J xs Ho) (hw : (W.bind (compG xs ct cf) f).run Φ)
    (hx : ∀ (r : Addr × HO) a x H' Ho' (N : VK) (N' : Hp → Prop), Same Ho Ho' → Zs (r :: rs) H' Ho' → Z.D K Ho' x a →
      (W.bind (ct a) fun b => W.ite b (cf a) ⟨fun Ψ => ∀ H'' Ho'', Same Ho' Ho'' → Zs (r :: rs) H'' Ho'' → N' H'', fun _ _ _ q => q⟩).run (fun y => ∀ w H'' Ho'', Same Ho' Ho'' → Zs (r :: rs) H'' Ho'' → Z.D K Ho'' w y → N w H'') →
      g x (wipe σ vs) H' fun σ2 H2 => wipe σ2 vs = wipe σ vs ∧ tt σ2 H2 fun b H3 => if b = true then te σ2 H3 N else N' H3)
    (k : ∀ ys H' Ho', Same Ho Ho' → (f ys).run Φ → ∀ p ws, Zs ((p, .lst ws) :: rs) H' Ho' → DL K Ho' ws ys → Q (.ref p) H') : LcG g tt te vs σ Q J H := by
  intro Dn hD
  obtain ⟨hsz, hw⟩ := hw
  refine ⟨fun i m H => m = xs.length - i ∧ i ≤ xs.length ∧ ∃ (Ho' : Hp) (acc : List β) (acs : List V), Same Ho Ho' ∧ Zs ((Dn, .lst acs) :: rs) H Ho' ∧ DL K Ho' acs acc ∧ acs.length ≤ i ∧ (comp (xs.drop i) acc ct cf).run fun ys => (f ys).run Φ,
    ⟨xs.length, by simp, Nat.zero_le _, Ho, [], [], Same.refl _, z.root hD, .nil, Nat.le_refl _, hw⟩, ?_⟩
  rintro i m H ⟨rfl, hi, Ho', acc, acs, e', z', da, la, hw⟩
  have tr := T i _ H Ho' e' z' fun r hrr => List.mem_cons_of_mem _ (hr r hrr)
  by_cases hlt : i < xs.length
  · refine .inr ?_
    have hxi := List.getElem?_eq_getElem hlt
    obtain ⟨go, yl⟩ := tr.1 _ hxi
    refine ⟨go, fun H' => ∃ (Ho' : Hp) (acc : List β) (acs : List V), Same Ho Ho' ∧ Zs ((Dn, .lst acs) :: rs) H' Ho' ∧ DL K Ho' acs acc ∧ acs.length ≤ i + 1 ∧ (comp (xs.drop (i + 1)) acc ct cf).run fun ys => (f ys).run Φ, fun H' hN => ⟨xs.length - (i + 1), by omega, rfl, hlt, hN⟩, fun x H' y => ?_⟩
    obtain ⟨Ho2, e2, z2, dx⟩ := yl x H' y
    rw [drop_cons hxi] at hw
    refine hx (Dn, .lst acs) _ x H' Ho2 _ _ (e'.trans e2) (z2 _ z') dx ?_
    have hw : (ct xs[i]).run fun b => (W.ite b (W.bind (cf xs[i]) fun y => comp (xs.drop (i + 1)) (acc ++ [y]) ct cf) (comp (xs.drop (i + 1)) acc ct cf)).run fun ys => (f ys).run Φ := hw
    show (ct xs[i]).run _
    refine W.mono _ _ _ (fun b hb => ?_) hw
    refine ⟨fun e => ?_, fun e H'' Ho'' e3 z3 => ?_⟩
    · refine W.mono _ _ _ (fun y hy w H'' Ho'' e3 z3 dw => ?_) (hb.1 e)
      refine ⟨acs, z3.head, by omega, Ho'', acc ++ [y], acs ++ [w], (e'.trans e2).trans e3, z3.put, (DL.mo (DL.mo da e2) e3).push dw, ?_, hy⟩
      rw [List.length_append]
      exact Nat.succ_le_succ la
    · exact ⟨Ho'', acc, acs, (e'.trans e2).trans e3, z3, DL.mo (DL.mo da e2) e3, Nat.le_succ_of_le la, hb.2 e⟩
  · have e : i = xs.length := by omega
    subst e
    refine .inl ⟨tr.2 (Nat.le_refl _), ?_⟩
    rw [List.drop_length] at hw
    exact k acc H Ho' e' hw Dn acs z' da
theorem y_lcS {S : Type} {J : It} {xs : List α} {s0 : S} {body : α → S → W (Option β × S)} {f : List β × S → W γ} (z : Zs rs H Ho) (T : Trn K r0 J xs Ho) (hw : (W.bind (compSG xs s0 body) f).run Φ) (I : (Addr × HO) → S → Hp → Hp → Prop)
    (i0 : ∀ r H', Zs (r :: rs) H' Ho → I r s0 H' Ho)
    (iz : ∀ r s H' Ho', I r s H' Ho' → ∃ rs', Zs (r :: rs') H' Ho' ∧ ∀ q ∈ r0, q ∈ rs')
    (im : ∀ r s H' Ho' H'' Ho'', I r s H' Ho' → Same Ho' Ho'' → (∀ rs, Zs rs H' Ho' → Zs rs H'' Ho'') → I r s H'' Ho'')
    (ip : ∀ p o o' s H' Ho', NotTup o' → I (p, o) s H' Ho' → I (p, o') s (upd H' p o') Ho')
    (hx : ∀ (r : Addr × HO) a x s H' Ho' (N : VK) (N' : Hp → Prop), Same Ho Ho' → I r s H' Ho' → Z.D K Ho' x a →
      (body a s).run (fun q => match q.1 with | some y => ∀ w H'' Ho'', Same Ho' Ho'' → I r q.2 H'' Ho'' → Z.D K Ho'' w y → N w H'' | none => ∀ H'' Ho'', Same Ho' Ho'' → I r q.2 H'' Ho'' → N' H'') →
      g x (wipe σ vs) H' fun σ2 H2 => wipe σ2 vs = wipe σ vs ∧ tt σ2 H2 fun b H3 => if b = true then te σ2 H3 N else N' H3)
    (k : ∀ ys s p ws H' Ho', Same Ho Ho' → I (p, .lst ws) s H' Ho' → DL K Ho' ws ys → (f (ys, s)).run Φ → Q (.ref p) H') : LcG g tt te vs σ Q J H := by
  intro Dn hD
  obtain ⟨hsz, hw⟩ := hw
  refine ⟨fun i m H => m = xs.length - i ∧ i ≤ xs.length ∧ ∃ (Ho' : Hp) (acc : List β) (acs : List V) (s : S), Same Ho Ho' ∧ I (Dn, .lst acs) s H Ho' ∧ DL K Ho' acs acc ∧ acs.length ≤ i ∧ (compS (xs.drop i) acc s body).run fun q => (f q).run Φ,
    ⟨xs.length, by simp, Nat.zero_le _, Ho, [], [], s0, Same.refl _, i0 _ _ (z.root hD), .nil, Nat.le_refl _, hw⟩, ?_⟩
  rintro i m H ⟨rfl, hi, Ho', acc, acs, s, e', hI, da, la, hw⟩
  obtain ⟨rs', z', sub⟩ := iz _ _ _ _ hI
  have tr := T i _ H Ho' e' z' fun r hrr => List.mem_cons_of_mem _ (sub r hrr)
  by_cases hlt : i < xs.length
  · refine .inr ?_
    have hxi := List.getElem?_eq_getElem hlt
    obtain ⟨go, yl⟩ := tr.1 _ hxi
    refine ⟨go, fun H' => ∃ (Ho' : Hp) (acc : List β) (acs : List V) (s : S), Same Ho Ho' ∧ I (Dn, .lst acs) s H' Ho' ∧ DL K Ho' acs acc ∧ acs.length ≤ i + 1 ∧ (compS (xs.drop (i + 1)) acc s body).run fun q => (f q).run Φ, fun H' hN => ⟨xs.length - (i + 1), by omega, rfl, hlt, hN⟩, fun x H' y => ?_⟩
    obtain ⟨Ho2, e2, z2, dx⟩ := yl x H' y
    rw [drop_cons hxi] at hw
    refine hx (Dn, .lst acs) _ x s H' Ho2 _ _ (e'.trans e2) (im _ _ _ _ _ _ hI e2 z2) dx ?_
    refine W.mono _ _ _ (fun q hq => ?_) (show (body xs[i] s).run _ from hw)
    obtain ⟨o, s'⟩ := q
    cases o with
    | some y =>
      intro w H'' Ho'' e3 hI3 dw
      obtain ⟨rs3, z3, _⟩ := iz _ _ _ _ hI3
      refine ⟨acs, z3.head, by omega, Ho'', acc ++ [y], acs ++ [w], s', (e'.trans e2).trans e3, ip _ _ _ _ _ _ trivial hI3, (DL.mo (DL.mo da e2) e3).push dw, ?_, hq⟩
      rw [List.length_append]
      exact Nat.succ_le_succ la
    | none =>
      intro H'' Ho'' e3 hI3
      exact ⟨Ho'', acc, acs, s', (e'.trans e2).trans e3, hI3, DL.mo (DL.mo da e2) e3, Nat.le_succ_of_le la, hq⟩
  · have e : i = xs.length := by omega
    subst e
    refine .inl ⟨tr.2 (Nat.le_refl _), ?_⟩
    rw [List.drop_length] at hw
    exact k acc s Dn acs H Ho' e' hI da hw
/-! ### where ways meet -/
theorem y_join {ρ β : Type} {a : Bool} {c1 c2 : W β} {f : β → W γ} {X Y : Prop} {Q : ρ → Hp → Prop} (hw : (W.bind (W.ite a c1 c2) f).run Φ) (J : β → ρ → Hp → Prop)
    (h1 : a = true → (∀ r v H', J r v H' → (f r).run Φ → Q v H') → (W.bind c1 f).run Φ → X)
    (h2 : a = false → (∀ r v H', J r v H' → (f r).run Φ → Q v H') → (W.bind c2 f).run Φ → Y)
    (k : ∀ r v H', J r v H' → (f r).run Φ → Q v H') : if a = true then X else Y := by
  cases a with
  | true => exact iteT (h1 rfl k (hw.1 rfl))
  | false => exact iteF (h2 rfl k (hw.2 rfl))
/-- both ways are total and lay nothing down -/
theorem y_andP {a : Bool} (b : Bool) {X : Prop} {Q : Bool → Hp → Prop} (h : a = true → Q b H → X) (k : Q (a && b) H) : if a = true then X else Q false H := by
  cases a with
  | true => exact iteT (h rfl k)
  | false => exact iteF k
theorem y_orP {a : Bool} (b : Bool) {X : Prop} {Q : Bool → Hp → Prop} (h : a = false → Q b H → X) (k : Q (a || b) H) : if a = true then Q true H else X := by
  cases a with
  | true => exact iteT k
  | false => exact iteF (h rfl k)
theorem y_andPV {a : Bool} (b : Bool) {X : Prop} (h : a = true → Q (.bl b) H → X) (k : Q (.bl (a && b)) H) : if a = true then X else Q (.bl false) H := by
  cases a with
  | true => exact iteT (h rfl k)
  | false => exact iteF k
theorem y_orPV {a : Bool} (b : Bool) {X : Prop} (h : a = false → Q (.bl b) H → X) (k : Q (.bl (a || b)) H) : if a = true then Q (.bl true) H else X := by
  cases a with
  | true => exact iteT k
  | false => exact iteF (h rfl k)
/-! ### errors -/
def ExP {α : Type} (N : α → Prop) (R : Er → Prop) : Ex α → Prop
  | .ok a => N a
  | .er e => R e
theorem exP_ok {α : Type} {N : α → Prop} {R : Er → Prop} {a : α} (h : ExP N R (.ok a)) : N a := h
theorem exP_er {α : Type} {N : α → Prop} {R : Er → Prop} {e : Er} (h : ExP N R (.er e)) : R e := h
def W.exm {α β : Type} (c : W (Ex α)) (f : α → W β) (g : Er → W β) : W β := W.bind c fun r => match r with
  | .ok a => f a
  | .er e => g e
/-- where nothing may be raised -/
def W.sure {α : Type} (c : W (Ex α)) : W α := W.exm c W.ret fun _ => W.bad
theorem run_exm {α β : Type} {c : W (Ex α)} {f : α → W β} {g : Er → W β} {Φ : β → Prop} (h : (W.exm c f g).run Φ) : c.run (ExP (fun a => (f a).run Φ) fun e => (g e).run Φ) :=
  W.mono _ _ _ (fun r hr => by cases r with | ok a => exact hr | er e => exact hr) h
theorem exm_run {α β : Type} {c : W (Ex α)} {f : α → W β} {g : Er → W β} {Φ : β → Prop} (h : c.run (ExP (fun a => (f a).run Φ) fun e => (g e).run Φ)) : (W.exm c f g).run Φ :=
  c.mono (ExP (fun a => (f a).run Φ) fun e => (g e).run Φ) _ (fun r hr => by cases r with | ok a => exact hr | er e => exact hr) h
theorem run_sure {α β : Type} {c : W (Ex α)} {f : α → W β} {Φ : β → Prop} (h : (W.bind (W.sure c) f).run Φ) : c.run (ExP (fun a => (f a).run Φ) fun _ => False) := run_exm h
theorem y_callS {sp : Sp} {E : L2.St → XK} {ts : TA} (k : ts σ H fun vs H1 => sp vs H1 Q (E σ)) : tCallS sp E ts σ H Q := k
def tRaise (C : Addr) (Wx : WX) : TS := fun _ σ H => Wx (.ref C) none σ H
theorem y_raise {C : Addr} {Wx : WX} {w : TS} {D : Ends} (k : Wx (.ref C) none σ H) : tSeq (tRaise C Wx) w D σ H := k
def tTryAs (K : PySem.W.Frag) (c : Value) (i : Nat) (tb : WX → TS) (ts : Addr → Value → Option Addr → TS) (Wout : WX) : TS := fun D σ H => tb (wAs K c i ts Wout D) D σ H
def tTryOnly (K : PySem.W.Frag) (c : Value) (tb : WX → TS) (ts : Addr → Value → Option Addr → TS) (Wout : WX) : TS := fun D σ H => tb (wOnly K c ts Wout D) D σ H
variable {cl : Nat → Addr} {Wout : WX} {D : Ends} {u1 : TS} {i : Nat}
theorem y_tryJ {S : Type} {c : Value} {cb : W (Ex S)} {cs : Er → W S} {f : S → W γ} {tb : WX → TS} {ts : Addr → Value → Option Addr → TS} {sub : Nat → Bool} (σ' : Addr → L2.St) (hm : ∀ n, PySem.W.exmOne K (.ref (cl n)) c = some (sub n)) (z : Zs rs H Ho)
    (hw : (W.bind (W.exm cb W.ret fun e => W.guard (sub e.cls = true) (cs e)) f).run Φ) (J : S → L2.St → Hp → Hp → Prop) (hσ : ∀ a, σ.set i (some (.ref a)) = σ' a)
    (hb : ∀ (Wx : WX) (N : L2.St → Hp → Prop), cb.run (ExP (fun s => ∀ σ' H'' Ho'', Same Ho Ho'' → J s σ' H'' Ho'' → N σ' H'') fun e => ∀ H' Ho', Same Ho Ho' → Zs rs H' Ho' → Wx (.ref (cl e.cls)) none σ H') → tb Wx { D with nx := N } σ H)
    (hs : ∀ e a H' Ho' (N : L2.St → Hp → Prop), Same Ho Ho' → Zs rs H' Ho' → H' a = none → (cs e).run (fun s => ∀ σ' H'' Ho'', Same Ho' Ho'' → J s σ' H'' Ho'' → N σ' H'') →
      ts a (.ref (cl e.cls)) none { nx := fun σ' H' => N (σ'.set i none) H', rt := D.rt, bk := fun σ' H' => D.bk (σ'.set i none) H', ct := fun σ' H' => D.ct (σ'.set i none) H' } (σ' a) H')
    (k : ∀ s σ' H' Ho', Same Ho Ho' → J s σ' H' Ho' → (f s).run Φ → u1 D σ' H') : tSeq (tTryAs K c i tb ts Wout) u1 D σ H := by
  refine hb _ _ (W.mono _ _ _ (fun r hr => ?_) (run_exm hw))
  cases r with
  | ok s => exact fun σ' H' Ho' e j => k s σ' H' Ho' e j hr
  | er r =>
    refine fun H' Ho' e z' => ⟨true, by rw [hm, hr.1], fun _ a ha => ?_, fun q => nomatch q⟩
    rw [hσ]
    exact hs r a H' Ho' (u1 D) e z' ha (W.mono _ _ _ (fun s hs σ' H'' Ho'' e'' j => k s σ' H'' Ho'' (e.trans e'') j hs) hr.2)
theorem y_tryOJ {S : Type} {c : Value} {cb : W (Ex S)} {cs : Er → W S} {f : S → W γ} {tb : WX → TS} {ts : Addr → Value → Option Addr → TS} {sub : Nat → Bool} (hm : ∀ n, PySem.W.exmOne K (.ref (cl n)) c = some (sub n)) (z : Zs rs H Ho)
    (hw : (W.bind (W.exm cb W.ret fun e => W.guard (sub e.cls = true) (cs e)) f).run Φ) (J : S → L2.St → Hp → Hp → Prop)
    (hb : ∀ (Wx : WX) (N : L2.St → Hp → Prop), cb.run (ExP (fun s => ∀ σ' H'' Ho'', Same Ho Ho'' → J s σ' H'' Ho'' → N σ' H'') fun e => ∀ H' Ho', Same Ho Ho' → Zs rs H' Ho' → Wx (.ref (cl e.cls)) none σ H') → tb Wx { D with nx := N } σ H)
    (hs : ∀ e a H' Ho' (N : L2.St → Hp → Prop), Same Ho Ho' → Zs rs H' Ho' → H' a = none → (cs e).run (fun s => ∀ σ' H'' Ho'', Same Ho' Ho'' → J s σ' H'' Ho'' → N σ' H'') → ts a (.ref (cl e.cls)) none { D with nx := N } σ H')
    (k : ∀ s σ' H' Ho', Same Ho Ho' → J s σ' H' Ho' → (f s).run Φ → u1 D σ' H') : tSeq (tTryOnly K c tb ts Wout) u1 D σ H := by
  refine hb _ _ (W.mono _ _ _ (fun r hr => ?_) (run_exm hw))
  cases r with
  | ok s => exact fun σ' H' Ho' e j => k s σ' H' Ho' e j hr
  | er r =>
    refine fun H' Ho' e z' => ⟨true, by rw [hm, hr.1], fun _ a ha => ?_, fun q => nomatch q⟩
    exact hs r a H' Ho' (u1 D) e z' ha (W.mono _ _ _ (fun s hs σ' H'' Ho'' e'' j => k s σ' H'' Ho'' (e.trans e'') j hs) hr.2)
/-! ### built-ins by values -/
def rLenZ (K : PySem.W.Frag) : List V → Hp → VK → Prop := fun xs H Q => ∃ p ys, xs = [.ref p] ∧ (SqL K H p ys ∨ SqT K H p ys) ∧ Q (.int ys.length) H
def rListZ (K : PySem.W.Frag) : List V → Hp → VK → Prop := fun xs H Q => ∃ p ys, xs = [.ref p] ∧ (SqL K H p ys ∨ SqT K H p ys) ∧ ∀ l, H l = none → Q (.ref l) (upd H l (.lst ys))
theorem y_len {xs : List α} (d : LV K rs Ho v xs) (z : Zs rs H Ho) (k : Q (.int (xs.length : Int)) H) : rLenZ K [v] H Q := by
  obtain ⟨p, vs, rfl, d, s⟩ := LV.rd d z
  refine ⟨p, vs, rfl, .inl s, ?_⟩
  rw [d.len]
  exact k
theorem y_list {xs : List α} (d : LV K rs Ho v xs) (z : Zs rs H Ho) (k : ∀ H' p ws, Zs ((p, .lst ws) :: rs) H' Ho → DL K Ho ws xs → Q (.ref p) H') : rListZ K [v] H Q := by
  obtain ⟨p, vs, rfl, d, s⟩ := LV.rd d z
  exact ⟨p, vs, rfl, .inl s, fun q hq => k _ q _ (z.root hq) d⟩
theorem y_abs {a : Int} (k : Q (.int (if a < 0 then -a else a)) H) : (fun xs H Q => ∃ i, xs = [.int i] ∧ Q (.int (if i < 0 then -i else i)) H : List V → Hp → VK → Prop) [.int a] H Q := ⟨a, rfl, k⟩
theorem y_intB {a : Bool} (k : Q (.int (if a then 1 else 0)) H) : (fun xs H Q => (∃ i, xs = [.int i] ∧ Q (.int i) H) ∨ ∃ k, xs = [.bl k] ∧ Q (.int (if k then 1 else 0)) H : List V → Hp → VK → Prop) [.bl a] H Q := .inr ⟨a, rfl, k⟩
theorem y_min2 {a b : Int} (k : Q (.int (if b < a then b else a)) H) : (fun xs H Q => ∃ i j, xs = [.int i, .int j] ∧ Q (.int (if j < i then j else i)) H : List V → Hp → VK → Prop) [.int a, .int b] H Q := ⟨a, b, rfl, k⟩
theorem y_max2 {a b : Int} (k : Q (.int (if b > a then b else a)) H) : (fun xs H Q => ∃ i j, xs = [.int i, .int j] ∧ Q (.int (if j > i then j else i)) H : List V → Hp → VK → Prop) [.int a, .int b] H Q := ⟨a, b, rfl, k⟩
theorem y_all {xs : List Bool} (d : LV K rs Ho v xs) (z : Zs rs H Ho) (k : Q (.bl (xs.all id)) H) : rAll K [v] H Q := by
  obtain ⟨p, vs, rfl, d, s⟩ := LV.rd d z
  rw [dl_bools d] at s
  exact ⟨p, xs, rfl, s, k⟩
theorem y_any {xs : List Bool} (d : LV K rs Ho v xs) (z : Zs rs H Ho) (k : Q (.bl (xs.any id)) H) : rAny K [v] H Q := by
  obtain ⟨p, vs, rfl, d, s⟩ := LV.rd d z
  rw [dl_bools d] at s
  exact ⟨p, xs, rfl, s, k⟩
theorem y_sum {xs : List Int} (d : LV K rs Ho v xs) (z : Zs rs H Ho) (k : Q (.int xs.sum) H) : rSum K [v] H Q := by
  obtain ⟨p, vs, rfl, d, s⟩ := LV.rd d z
  rw [dl_ints d] at s
  exact ⟨p, xs, rfl, s, k⟩
def srtI (xs : List Int) : List Int := xs.mergeSort fun a b => decide (a ≤ b)
theorem srtI_perm (xs : List Int) : (srtI xs).Perm xs := List.mergeSort_perm xs _
theorem srtI_srt (xs : List Int) : (srtI xs).Pairwise (· ≤ ·) := by
  have h := List.pairwise_mergeSort (le := fun a b : Int => decide (a ≤ b)) (fun a b c h1 h2 => by simp at h1 h2 ⊢; omega) (fun a b => by simp; omega) xs
  exact h.imp fun h => of_decide_eq_true h
theorem srtI_of {xs ys : List Int} (h : ys.Perm xs) (hs : ys.Pairwise (· ≤ ·)) : ys = srtI xs :=
  List.Perm.eq_of_pairwise (le := (· ≤ ·)) (fun a b _ _ h1 h2 => Int.le_antisymm h1 h2) hs (srtI_srt xs) (h.trans (srtI_perm xs).symm)
theorem y_sortI {xs : List Int} (d : LV K rs Ho v xs) (z : Zs rs H Ho) (k : ∀ H' p ws, Zs ((p, .lst ws) :: rs) H' Ho → DL K Ho ws (srtI xs) → Q (.ref p) H') : rSortedI K [v] H Q := by
  obtain ⟨p, vs, rfl, d, s⟩ := LV.rd d z
  rw [dl_ints d] at s
  refine ⟨p, xs, rfl, s, fun ns' q hp hs hq => ?_⟩
  rw [srtI_of hp hs]
  exact k _ q _ (z.root hq) ints_dl
def mxD (ns : List Int) (d : Int) : Int := match ns with
  | [] => d
  | x :: xs => xs.foldl (fun a y => if decide (a < y) = true then y else a) x
def mnD (ns : List Int) (d : Int) : Int := match ns with
  | [] => d
  | x :: xs => xs.foldl (fun a y => if decide (y < a) = true then y else a) x
def rMxD (K : PySem.W.Frag) : List V → List V → Hp → VK → Prop := fun vs zs H Q => ∃ (a : Addr) (ns : List Int) (d : Int), vs = [V.ref a] ∧ zs = [V.int d] ∧ SqL K H a (ns.map V.int) ∧ Q (.int (mxD ns d)) H
def rMnD (K : PySem.W.Frag) : List V → List V → Hp → VK → Prop := fun vs zs H Q => ∃ (a : Addr) (ns : List Int) (d : Int), vs = [V.ref a] ∧ zs = [V.int d] ∧ SqL K H a (ns.map V.int) ∧ Q (.int (mnD ns d)) H
theorem hold_ints {h : Heap} : ∀ {ns : List Int} {us : List Value}, Vals (ns.map V.int) us → PySem.W.HoldAll h us ns
  | [], us, r => by cases r; exact PySem.W.HoldAll.nil
  | n :: ns, us, r => by
    cases r with
    | cons r1 r2 =>
      obtain ⟨t, rfl⟩ := r1
      exact PySem.W.HoldAll.cons (PySem.W.holds_int n t) (hold_ints r2)
theorem zmxD {X : Cx} {K : PySem.W.Frag} (hK : X.K = K) (hc : X.calm = true) (hu : X.A.units + 64 < cLine) : CallRK X (.builtin "max") [Str.ofString "default"] (rMxD K) := by
  subst hK
  intro pins s σ H vs zs us ws Q I r rz h
  obtain ⟨a, ns, d, rfl, rfl, hs, q⟩ := h
  obtain rfl := Vals.ref1 r
  obtain ⟨w1, rfl, t, rfl⟩ := vals1 rz
  obtain ⟨its, rv, hl, hz⟩ := I.list hs
  refine PySem.W.max_list_datum_default (α := Int) (I.ok.hd hc) hl.isList (hold_ints rv) (by show X.A.units + 1 + 0 < cLine; omega) (fun e h' tk k => ⟨.int d, H, I.kept (t' := tk) k, ⟨t, rfl⟩, ?_⟩) fun y ys i v h' tk e hi hh k => ?_
  · subst e; exact q
  · subst e
    obtain ⟨t', rfl⟩ := PySem.W.int_of_holds hh
    exact ⟨.int _, H, I.kept (t' := tk) k, ⟨t', rfl⟩, q⟩
theorem zmnD {X : Cx} {K : PySem.W.Frag} (hK : X.K = K) (hc : X.calm = true) (hu : X.A.units + 64 < cLine) : CallRK X (.builtin "min") [Str.ofString "default"] (rMnD K) := by
  subst hK
  intro pins s σ H vs zs us ws Q I r rz h
  obtain ⟨a, ns, d, rfl, rfl, hs, q⟩ := h
  obtain rfl := Vals.ref1 r
  obtain ⟨w1, rfl, t, rfl⟩ := vals1 rz
  obtain ⟨its, rv, hl, hz⟩ := I.list hs
  refine PySem.W.min_list_datum_default (α := Int) (I.ok.hd hc) hl.isList (hold_ints rv) (by show X.A.units + 1 + 0 < cLine; omega) (fun e h' tk k => ⟨.int d, H, I.kept (t' := tk) k, ⟨t, rfl⟩, ?_⟩) fun y ys i v h' tk e hi hh k => ?_
  · subst e; exact q
  · subst e
    obtain ⟨t', rfl⟩ := PySem.W.int_of_holds hh
    exact ⟨.int _, H, I.kept (t' := tk) k, ⟨t', rfl⟩, q⟩
theorem y_ckw {r : List V → List V → Hp → VK → Prop} {ts tk : TA} (k : ts σ H fun vs H1 => tk σ H1 fun zs H2 => r vs zs H2 Q) : tCKw r ts tk σ H Q := k
theorem y_mxD {xs : List Int} {a : Int} (d : LV K rs Ho v xs) (z : Zs rs H Ho) (k : Q (.int (mxD xs a)) H) : rMxD K [v] [.int a] H Q := by
  obtain ⟨p, vs, rfl, d, s⟩ := LV.rd d z
  rw [dl_ints d] at s
  exact ⟨p, xs, a, rfl, rfl, s, k⟩
theorem y_mnD {xs : List Int} {a : Int} (d : LV K rs Ho v xs) (z : Zs rs H Ho) (k : Q (.int (mnD xs a)) H) : rMnD K [v] [.int a] H Q := by
  obtain ⟨p, vs, rfl, d, s⟩ := LV.rd d z
  rw [dl_ints d] at s
  exact ⟨p, xs, a, rfl, rfl, s, k⟩
/-- min, max of a list that is not empty -/
def mxL (xs : List Int) : W Int := W.guard (0 < xs.length) (W.ret (mxD xs 0))
def mnL (xs : List Int) : W Int := W.guard (0 < xs.length) (W.ret (mnD xs 0))
theorem mxF : ∀ (xs : List Int) (x : Int), (xs.foldl (fun a y => if decide (a < y) = true then y else a) x) ∈ x :: xs ∧ ∀ y ∈ x :: xs, y ≤ xs.foldl (fun a y => if decide (a < y) = true then y else a) x
  | [], x => by simp
  | y :: ys, x => by
    have ih := mxF ys (if decide (x < y) = true then y else x)
    simp only [List.foldl_cons]
    generalize hr : ys.foldl (fun a y => if decide (a < y) = true then y else a) (if decide (x < y) = true then y else x) = r at ih
    obtain ⟨h1, h2⟩ := ih
    by_cases c : x < y
    · simp only [decide_eq_true c, if_true] at h1 h2
      refine ⟨List.mem_cons_of_mem _ h1, fun z hz => ?_⟩
      rcases List.mem_cons.mp hz with rfl | hz
      · have := h2 y List.mem_cons_self; omega
      · exact h2 z hz
    · simp only [decide_eq_false c, Bool.false_eq_true, if_false] at h1 h2
      refine ⟨?_, fun z hz => ?_⟩
      · rcases List.mem_cons.mp h1 with h | h
        · rw [h]; exact List.mem_cons_self
        · exact List.mem_cons_of_mem _ (List.mem_cons_of_mem _ h)
      · rcases List.mem_cons.mp hz with rfl | hz
        · exact h2 _ List.mem_cons_self
        · rcases List.mem_cons.mp hz with rfl | hz
          · have := h2 x List.mem_cons_self; omega
          · exact h2 z (List.mem_cons_of_mem _ hz)
theorem mnF : ∀ (xs : List Int) (x : Int), (xs.foldl (fun a y => if decide (y < a) = true then y else a) x) ∈ x :: xs ∧ ∀ y ∈ x :: xs, xs.foldl (fun a y => if decide (y < a) = true then y else a) x ≤ y
  | [], x => by simp
  | y :: ys, x => by
    have ih := mnF ys (if decide (y < x) = true then y else x)
    simp only [List.foldl_cons]
    generalize hr : ys.foldl (fun a y => if decide (y < a) = true then y else a) (if decide (y < x) = true then y else x) = r at ih
    obtain ⟨h1, h2⟩ := ih
    by_cases c : y < x
    · simp only [decide_eq_true c, if_true] at h1 h2
      refine ⟨List.mem_cons_of_mem _ h1, fun z hz => ?_⟩
      rcases List.mem_cons.mp hz with rfl | hz
      · have := h2 y List.mem_cons_self; omega
      · exact h2 z hz
    · simp only [decide_eq_false c, Bool.false_eq_true, if_false] at h1 h2
      refine ⟨?_, fun z hz => ?_⟩
      · rcases List.mem_cons.mp h1 with h | h
        · rw [h]; exact List.mem_cons_self
        · exact List.mem_cons_of_mem _ (List.mem_cons_of_mem _ h)
      · rcases List.mem_cons.mp hz with rfl | hz
        · exact h2 _ List.mem_cons_self
        · rcases List.mem_cons.mp hz with rfl | hz
          · have := h2 x List.mem_cons_self; omega
          · exact h2 z (List.mem_cons_of_mem _ hz)
theorem y_mxL {xs : List Int} (d : LV K rs Ho v xs) (z : Zs rs H Ho) (hg : 0 < xs.length) (k : Q (.int (mxD xs 0)) H) : rMax K [v] H Q := by
  obtain ⟨p, vs, rfl, d, s⟩ := LV.rd d z
  rw [dl_ints d] at s
  refine ⟨p, xs, rfl, s, hg, fun m hm hy => ?_⟩
  cases xs with
  | nil => simp at hg
  | cons x xs =>
    have q := mxF xs x
    have e : mxD (x :: xs) 0 = m := Int.le_antisymm (hy _ q.1) (q.2 _ hm)
    rw [← e]; exact k
theorem y_mnL {xs : List Int} (d : LV K rs Ho v xs) (z : Zs rs H Ho) (hg : 0 < xs.length) (k : Q (.int (mnD xs 0)) H) : rMin K [v] H Q := by
  obtain ⟨p, vs, rfl, d, s⟩ := LV.rd d z
  rw [dl_ints d] at s
  refine ⟨p, xs, rfl, s, hg, fun m hm hy => ?_⟩
  cases xs with
  | nil => simp at hg
  | cons x xs =>
    have q := mnF xs x
    have e : mnD (x :: xs) 0 = m := Int.le_antisymm (q.2 _ hm) (hy _ q.1)
    rw [← e]; exact k
end
end Z

/-! # sorted lists of tuples of ints, any number of them -/
namespace Z
open PySem PySem.Spec PyProof.Rows L2
theorem DL.item {α : Type} [Py α] {K : PySem.W.Frag} {vs : List V} {xs : List α} {i : Nat} {v : V} {H : Hp} (h : DL K H vs xs) (e : vs[i]? = some v) : ∃ x, xs[i]? = some x ∧ D K H v x := by
  have hi : i < xs.length := by rw [← h.len]; exact (List.getElem?_eq_some_iff.mp e).1
  obtain ⟨w, ew, dw⟩ := h.get (List.getElem?_eq_getElem hi)
  rw [e] at ew
  cases ew
  exact ⟨_, List.getElem?_eq_getElem hi, dw⟩
def lexL : List Int → List Int → Bool
  | [], [] => false
  | [], _ :: _ => true
  | _ :: _, [] => false
  | x :: xs, y :: ys => if x = y then lexL xs ys else decide (x < y)
theorem lexL_asym : ∀ a b : List Int, lexL a b = true → lexL b a = false
  | [], [], h => nomatch h
  | [], _ :: _, _ => rfl
  | _ :: _, [], h => nomatch h
  | x :: xs, y :: ys, h => by
    have h : (if x = y then lexL xs ys else decide (x < y)) = true := h
    show (if y = x then lexL ys xs else decide (y < x)) = false
    by_cases e : x = y
    · rw [if_pos e] at h
      rw [if_pos e.symm]
      exact lexL_asym xs ys h
    · rw [if_neg e] at h
      rw [if_neg (fun q => e q.symm)]
      have := of_decide_eq_true h
      exact decide_eq_false (by omega)
theorem lexL_tr : ∀ a b c : List Int, lexL b a = false → lexL c b = false → lexL c a = false
  | [], b, c, _, h2 => by
    cases c with
    | nil => rfl
    | cons z zs => rfl
  | x :: xs, [], c, h1, _ => nomatch h1
  | x :: xs, y :: ys, [], _, h2 => nomatch h2
  | x :: xs, y :: ys, z :: zs, h1, h2 => by
    have h1 : (if y = x then lexL ys xs else decide (y < x)) = false := h1
    have h2 : (if z = y then lexL zs ys else decide (z < y)) = false := h2
    show (if z = x then lexL zs xs else decide (z < x)) = false
    by_cases e1 : y = x
    · subst e1
      rw [if_pos rfl] at h1
      by_cases e2 : z = y
      · rw [if_pos e2] at h2 ⊢
        exact lexL_tr xs ys zs h1 h2
      · rw [if_neg e2] at h2 ⊢
        exact h2
    · rw [if_neg e1] at h1
      have q1 := of_decide_eq_false h1
      by_cases e2 : z = y
      · subst e2
        rw [if_neg e1]; exact h1
      · rw [if_neg e2] at h2
        have q2 := of_decide_eq_false h2
        rw [if_neg (by omega)]
        exact decide_eq_false (by omega)
theorem lexL_tot : ∀ a b : List Int, lexL a b = false → lexL b a = false → a = b
  | [], [], _, _ => rfl
  | [], _ :: _, h, _ => nomatch h
  | _ :: _, [], _, h => nomatch h
  | x :: xs, y :: ys, h1, h2 => by
    have h1 : (if x = y then lexL xs ys else decide (x < y)) = false := h1
    have h2 : (if y = x then lexL ys xs else decide (y < x)) = false := h2
    by_cases e : x = y
    · subst e
      rw [if_pos rfl] at h1 h2
      rw [lexL_tot xs ys h1 h2]
    · rw [if_neg e] at h1
      rw [if_neg (fun q => e q.symm)] at h2
      have := of_decide_eq_false h1
      have := of_decide_eq_false h2
      omega
section
variable {prog : Program} {w : World} {A : Around} {E : Value → Shared → Prop} {s : Shared}
theorem kat_lexL {b : Bool} {ps qs : List Value} {is js : List Int} (n : Nat) (hp : IntsAre ps is) (hq : IntsAre qs js) (he : is.length = js.length) : PySem.W.KatLex prog w A b false (fun r t => t = s ∧ r = lexL is js) (ps.zip qs) n s := by
  induction hp generalizing qs js n with
  | nil =>
    cases hq with
    | nil => exact PySem.W.kat_nil ⟨rfl, rfl⟩
    | cons q u hq => simp at he
  | @cons i t ps is hp ih =>
    cases hq with
    | nil => simp at he
    | @cons j u qs js hq =>
      show PySem.W.KatLex prog w A b false _ ((Value.int i t, Value.int j u) :: ps.zip qs) n s
      refine PySem.W.kat_cons (wpAny_eqBool_int ?_)
      have el : lexL (i :: is) (j :: js) = if i = j then lexL is js else decide (i < j) := rfl
      by_cases e : i = j
      · subst e
        rw [if_pos rfl] at el
        rw [beq_self_eq_true, el]
        exact PySem.W.kat_yes (ih (n + 1) hq (by simpa using he))
      · rw [if_neg e] at el
        rw [show (i == j) = false from beq_eq_false_iff_ne.mpr e, el]
        exact PySem.W.kat_no (TS.oneLt_ints _ ⟨rfl, rfl⟩)
theorem tups_cmp {us : List Value} {k : Value → List Int} {d : Nat} (hp : ∀ v ∈ us, TS.TupInts s.heap v (k v) ∧ (k v).length = d) : SrtO.Cmp prog w A s (tuples' true) (fun p => p.1 ∈ us) (SrtO.lt2 fun v u => lexL (k v) (k u)) := by
  intro p q h1 h2
  obtain ⟨⟨a, xs, ea, ⟨o, ho, _, n, hd⟩, ia⟩, la⟩ := hp _ h1
  obtain ⟨⟨b, ys, eb, ⟨u, hu, _, m, hm⟩, ib⟩, lb⟩ := hp _ h2
  show wpAny (model prog w) A (keyLt' (tuples' true) p.1 q.1) (fun r t => t = s ∧ r = lexL (k p.1) (k q.1)) (fun _ _ => False) s
  have sz : xs.size = ys.size := by
    have q1 := ia.length
    have q2 := ib.length
    rw [Array.length_toList] at q1 q2
    omega
  generalize k p.1 = kp at ia la ⊢
  generalize k q.1 = kq at ib lb ⊢
  rw [ea, eb]
  refine PySem.W.kat_lt ho hd hu hm ?_
  rw [show decide (xs.size < ys.size) = false from decide_eq_false (by omega)]
  exact kat_lexL 0 ia ib (by omega)
theorem tups_firsts {h : Heap} {k : Value → List Int} {d : Nat} (h1 : 1 ≤ d) : ∀ us : List Value, (∀ v ∈ us, TS.TupInts h v (k v) ∧ (k v).length = d) → ∃ fs, PySem.W.KatTups h us fs ∧ fs.length = us.length ∧ ∀ f ∈ fs, ∃ i t, f = Value.int i t
  | [], _ => ⟨[], .nil, rfl, fun _ m => nomatch m⟩
  | v :: us, x => by
    obtain ⟨fs, kt, hl, hi⟩ := tups_firsts h1 us fun u hu => x u (List.mem_cons_of_mem _ hu)
    obtain ⟨⟨a, xs, ea, ⟨o, ho, hc, n, hdt⟩, ia⟩, la⟩ := x v List.mem_cons_self
    obtain ⟨ys⟩ := xs
    cases ys with
    | nil =>
      have l := ia.length
      rw [la] at l
      have l : 0 = d := l
      omega
    | cons y ys =>
      obtain ⟨m, t, hy⟩ := ia.all y List.mem_cons_self
      subst ea
      refine ⟨y :: fs, .cons ho hc hdt rfl kt, by simp [hl], fun f hf => ?_⟩
      rcases List.mem_cons.mp hf with rfl | hf
      · exact ⟨m, t, hy⟩
      · exact hi f hf
theorem tups_sortable {a : Addr} {us : List Value} {k : Value → List Int} {d : Nat} (h1 : 1 ≤ d) (h0 : 0 < us.length) (hp : ∀ v ∈ us, TS.TupInts s.heap v (k v) ∧ (k v).length = d) (ha : ∀ o, s.heap.get? a = some o → o.cls ≠ .type "tuple") :
    SrtO.SortableO prog w A s a us fun v u => lexL (k v) (k u) := by
  intro h' keep
  have hp' : ∀ v ∈ us, TS.TupInts h' v (k v) ∧ (k v).length = d := fun v m => ⟨(hp v m).1.keeps fun b o e c => keep b o (fun z => by subst z; exact ha o e c) e, (hp v m).2⟩
  obtain ⟨fs, q1, q2, q3⟩ := tups_firsts h1 us hp'
  refine ⟨tuples' true, fun Q E hq => ?_, tups_cmp hp'⟩
  refine PySem.W.kat_kind (T := .type "int") q1 (by omega) (fun f m => ?_) (by rfl) ?_
  · obtain ⟨x, t, rfl⟩ := q3 f m
    exact PySem.W.Looks.now
  · rw [show (Value.type "int" != Value.type "tuple") = true from by decide +kernel]
    exact hq
theorem swoL {α : Type} (k : α → List Int) : SrtO.Swo fun v u => lexL (k v) (k u) := ⟨fun x y => lexL_asym _ _, fun x y z => lexL_tr _ _ _⟩
end
/-- sorted(xs), xs a list of tuples of d ints -/
def rSortedL (K : PySem.W.Frag) (d : Nat) : List V → Hp → VK → Prop := fun vs H Q => ∃ (a : Addr) (xs : List V), vs = [V.ref a] ∧ SqL K H a xs ∧ (∀ x ∈ xs, ∃ ns, TupI K H x ns ∧ ns.length = d) ∧
  ∀ (ys : List V) (p : Addr), ys.Perm xs → ys.Pairwise (fun x y => ∀ n m, TupI K H x n → TupI K H y m → lexL m n = false) → H p = none → Q (.ref p) (upd H p (.lst ys))
theorem zsorted {X : Cx} {K : PySem.W.Frag} {d : Nat} (hK : X.K = K) (h1 : 1 ≤ d) : CallR X (.builtin "sorted") (rSortedL K d) := by
  subst hK
  intro pins s σ H vs us Q I r h
  obtain ⟨a, xs, rfl, hs, hx, q⟩ := h
  obtain ⟨its, rv, hl, hz⟩ := I.list hs
  rw [Vals.ref1 r]
  obtain ⟨e1, e2⟩ := bkV_refs rv fun x m => by
    obtain ⟨ns, ⟨t, e, _⟩, _⟩ := hx x m
    exact ⟨t, e⟩
  have raw : ∀ v ∈ its, TS.TupInts s.heap v (TS.intsOf s.heap v) ∧ (TS.intsOf s.heap v).length = d := by
    intro v hv
    obtain ⟨t, rfl⟩ := e2 v hv
    have hm : V.ref t ∈ xs := by rw [e1]; exact List.mem_map.mpr ⟨_, hv, rfl⟩
    obtain ⟨ns, ⟨t', e, ht⟩, hn⟩ := hx _ hm
    cases e
    have q1 := tupI_raw I ht
    rw [q1.ints]
    exact ⟨q1, hn⟩
  refine SrtO.sorted_ord (ltv := fun v u => lexL (TS.intsOf s.heap v) (TS.intsOf s.heap u)) (swoL _) hl.isList (by rw [← rv.length]; exact hz) (fun h2 h₁ b hb kk => ?_) fun out o1 o2 => ?_
  · refine tups_sortable (s := { s with heap := h₁ }) (k := TS.intsOf s.heap) h1 (by omega) (fun v hm => ⟨(raw v hm).1.keeps fun c o e _ => (kk c o e).2, (raw v hm).2⟩) fun o e => ?_
    have e' := e.symm.trans hb
    cases e'
    exact fun c => absurd (Value.type.inj c) (by decide)
  · have h3 : ∀ u ∈ out, ∃ b, u = Value.ref b := fun u hu => e2 u (o2.perm.mem_iff.mp hu)
    obtain ⟨n, hn⟩ := PyProof.Rows.sortedAll_at s.heap its out.toArray
    have hpm : (out.map bkV).Perm xs := by rw [e1]; exact o2.perm.map _
    refine ⟨.ref (s.heap.objs.size + 1), upd H (s.heap.objs.size + 1) (.lst (out.map bkV)), I.laid (t' := s.toks) (fun b o e => PyProof.Rows.sortedAll_old e) (Nat.le_succ _) ⟨?_, out, n, bkV_vals h3, hn⟩, rfl, q _ _ hpm ?_ (I.hok.fresh (Nat.le_succ _))⟩
    · rw [hpm.length_eq]; exact hz
    · rw [List.pairwise_map]
      refine List.Pairwise.imp (fun {u v} huv nn mm h4 h5 => ?_) o1
      obtain ⟨t1, g1, k1⟩ := h4
      obtain ⟨t2, g2, k2⟩ := h5
      have w1 := tupI_raw I k1
      have w2 := tupI_raw I k2
      rw [← bkV_ref g1] at w1
      rw [← bkV_ref g2] at w2
      rw [← w1.ints, ← w2.ints]
      exact huv
/-! ### by data -/
class Ktup (α : Type) [Py α] where
  key : α → List Int
  d : Nat
  pos : 1 ≤ d
  len : ∀ x, (key x).length = d
  py : ∀ x : α, toPy x = .tuple ((key x).map PyData.int)
  inj : ∀ x y, key x = key y → x = y
instance : Ktup (Int × Int) := ⟨fun x => [x.1, x.2], 2, by decide, fun _ => rfl, fun _ => rfl, fun x y h => by
  obtain ⟨a, b⟩ := x
  obtain ⟨c, d⟩ := y
  simpa using h⟩
instance : Ktup (P3 Int Int Int) := ⟨fun x => [x.a, x.b, x.c], 3, by decide, fun _ => rfl, fun _ => rfl, fun x y h => by
  obtain ⟨a, b, c⟩ := x
  obtain ⟨d, e, f⟩ := y
  simpa using h⟩
instance : Ktup (P4 Int Int Int Int) := ⟨fun x => [x.a, x.b, x.c, x.d], 4, by decide, fun _ => rfl, fun _ => rfl, fun x y h => by
  obtain ⟨a, b, c, d⟩ := x
  obtain ⟨e, f, g, i⟩ := y
  simpa using h⟩
section
variable {α : Type} [Py α] [Ktup α] {K : PySem.W.Frag} {H Ho : Hp}
def leK (x y : α) : Bool := !lexL (Ktup.key y) (Ktup.key x)
def srtK (xs : List α) : List α := xs.mergeSort leK
theorem leK_tr (x y z : α) (h1 : leK x y = true) (h2 : leK y z = true) : leK x z = true := by
  unfold leK at *
  simp only [Bool.not_eq_true'] at *
  exact lexL_tr _ _ _ h1 h2
theorem leK_tot (x y : α) : (leK x y || leK y x) = true := by
  unfold leK
  cases h : lexL (Ktup.key y) (Ktup.key x) with
  | false => rfl
  | true => rw [lexL_asym _ _ h]; rfl
theorem leK_anti (x y : α) (h1 : leK x y = true) (h2 : leK y x = true) : x = y := by
  unfold leK at *
  simp only [Bool.not_eq_true'] at *
  exact Ktup.inj _ _ (lexL_tot _ _ h2 h1)
theorem srt_uniq : ∀ {l m : List α}, l.Perm m → l.Pairwise (fun x y => leK x y = true) → m.Pairwise (fun x y => leK x y = true) → l = m
  | [], m, hp, _, _ => (List.Perm.nil_eq hp)
  | x :: l, [], hp, _, _ => absurd hp.length_eq (by simp)
  | x :: l, y :: m, hp, h1, h2 => by
    have e : x = y := by
      rcases List.mem_cons.mp (hp.mem_iff.mp (List.mem_cons_self (a := x) (l := l))) with e | hx
      · exact e
      rcases List.mem_cons.mp (hp.mem_iff.mpr (List.mem_cons_self (a := y) (l := m))) with e | hy
      · exact e.symm
      exact leK_anti x y ((List.pairwise_cons.mp h1).1 y hy) ((List.pairwise_cons.mp h2).1 x hx)
    subst e
    rw [srt_uniq hp.cons_inv (List.pairwise_cons.mp h1).2 (List.pairwise_cons.mp h2).2]
theorem srtK_perm (xs : List α) : (srtK xs).Perm xs := List.mergeSort_perm xs leK
theorem srtK_srt (xs : List α) : (srtK xs).Pairwise (fun x y => leK x y = true) := List.pairwise_mergeSort leK_tr leK_tot xs
theorem srtK_of {xs ys : List α} (h : ys.Perm xs) (hs : ys.Pairwise (fun x y => leK x y = true)) : ys = srtK xs := srt_uniq (h.trans (srtK_perm xs).symm) hs (srtK_srt xs)
theorem srtK_eq {xs ys : List α} (h : ys.Perm xs) : srtK ys = srtK xs := srtK_of ((srtK_perm ys).trans h) (srtK_srt ys)
theorem DL.perm {vs us : List V} (hp : us.Perm vs) : ∀ {xs : List α}, DL K H vs xs → ∃ ys, ys.Perm xs ∧ DL K H us ys := by
  induction hp with
  | nil => exact fun {xs} h => ⟨xs, List.Perm.refl _, h⟩
  | cons v _ ih =>
    intro xs h
    cases xs with
    | nil => cases h
    | cons x xs =>
      cases h with
      | cons h1 h2 =>
        obtain ⟨ys, p, q⟩ := ih h2
        exact ⟨x :: ys, p.cons x, .cons h1 q⟩
  | swap u v l =>
    intro xs h
    cases xs with
    | nil => cases h
    | cons x xs =>
      cases xs with
      | nil => cases h with | cons _ h2 => cases h2
      | cons y xs =>
        cases h with
        | cons h1 h2 =>
          cases h2 with
          | cons h2 h3 => exact ⟨y :: x :: xs, List.Perm.swap _ _ _, .cons h2 (.cons h1 h3)⟩
  | trans _ _ ih1 ih2 =>
    intro xs h
    obtain ⟨ys, p, q⟩ := ih2 h
    obtain ⟨zs, p2, q2⟩ := ih1 q
    exact ⟨zs, p2.trans p, q2⟩
theorem dints_all : ∀ {vs : List V} {is : List Int}, DqAll K H vs (is.map PyData.int) → vs = is.map V.int
  | vs, [], h => by cases h; rfl
  | vs, i :: is, h => by
    cases h with
    | cons h1 h2 =>
      cases h1
      rw [dints_all h2]; rfl
theorem tupI_of {v : V} {x : α} (h : D K H v x) : TupI K H v (Ktup.key x) := by
  have h : Dq K H v (toPy x) := h
  rw [Ktup.py] at h
  cases h with
  | tup hs ha =>
    rw [dints_all ha] at hs
    exact ⟨_, rfl, SqT.of hs⟩
theorem dl_pw {us : List V} : ∀ {ys : List α}, DL K H us ys → us.Pairwise (fun x y => ∀ n m, TupI K H x n → TupI K H y m → lexL m n = false) → ys.Pairwise (fun x y => leK x y = true) := by
  induction us with
  | nil =>
    intro ys h _
    cases ys with
    | nil => exact .nil
    | cons y ys => cases h
  | cons u us ih =>
    intro ys h hp
    cases ys with
    | nil => cases h
    | cons y ys =>
      cases h with
      | cons h1 h2 =>
        obtain ⟨p1, p2⟩ := List.pairwise_cons.mp hp
        refine List.pairwise_cons.mpr ⟨fun z hz => ?_, ih h2 p2⟩
        obtain ⟨i, hi⟩ := List.mem_iff_getElem?.mp hz
        obtain ⟨t, ht, dt⟩ := DL.get h2 hi
        have q := p1 t (List.mem_of_getElem? ht) _ _ (tupI_of h1) (tupI_of dt)
        unfold leK
        rw [q]; rfl
theorem y_sortK {rs : List (Addr × HO)} {v : V} {Q : VK} {xs : List α} (d1 : LV K rs Ho v xs) (z : Zs rs H Ho) (k : ∀ H' p ws, Zs ((p, .lst ws) :: rs) H' Ho → DL K Ho ws (srtK xs) → Q (.ref p) H') : rSortedL K (Ktup.d α) [v] H Q := by
  obtain ⟨p, vs, rfl, d, s⟩ := LV.rd d1 z
  have dH : DL K H vs xs := DL.mo d z.le
  refine ⟨p, vs, rfl, s, fun u hu => ?_, fun us q hp hpw hq => ?_⟩
  · obtain ⟨i, hi⟩ := List.mem_iff_getElem?.mp hu
    obtain ⟨y, hy, dy⟩ := DL.item dH hi
    exact ⟨_, tupI_of dy, Ktup.len y⟩
  · obtain ⟨ys, pe, dy⟩ := DL.perm hp d
    have dyH : DL K H us ys := DL.mo dy z.le
    have e : ys = srtK xs := srtK_of pe (dl_pw dyH hpw)
    subst e
    exact k _ q us (z.root hq) dy
end
section
variable {K : PySem.W.Frag} {rs : List (Addr × HO)} {H Ho : Hp} {α β γ δ : Type} [Py α] [Py β] [Py γ] [Py δ] {v u : V} {Q : VK}
theorem y_cat22 {a : α × β} {b : γ × δ} (d1 : D K Ho v a) (d2 : D K Ho u b) (z : Zs rs H Ho) (k : ∀ p H' Ho', Same Ho Ho' → Zs rs H' Ho' → D K Ho' (.ref p) (⟨a.1, a.2, b.1, b.2⟩ : P4 α β γ δ) → Q (.ref p) H') : rCatT K v u H Q := by
  cases d1 with
  | tup hs ha =>
    cases d2 with
    | tup ht hb =>
      cases ha with
      | cons a1 a2 =>
        cases a2 with
        | cons a2 a3 =>
          cases a3
          cases hb with
          | cons b1 b2 =>
            cases b2 with
            | cons b2 b3 =>
              cases b3
              refine ⟨_, _, _, _, rfl, rfl, SqT.of (z.le _ _ hs), SqT.of (z.le _ _ ht), by simp, by show 4 ≤ sizeLine; decide, fun e => (nomatch e), fun _ q hq => ?_⟩
              exact k _ _ _ (Same.new (z.free hq)) (z.alloc hq) (.tup upd_same (.cons (dp_mono (Same.new (z.free hq)) _ _ a1) (.cons (dp_mono (Same.new (z.free hq)) _ _ a2) (.cons (dp_mono (Same.new (z.free hq)) _ _ b1) (.cons (dp_mono (Same.new (z.free hq)) _ _ b2) .nil)))))
end
theorem zop_catT {X : Cx} {K : PySem.W.Frag} (hK : X.K = K) : OpR X (binaryOp .Add) (rCatT K) := hK ▸ op_catT
end Z

/-! # Y4: the machine's rules, the written part by its own letter; isinstance -/
namespace Z
open PySem PySem.Spec PyProof.Rows L2
section
variable {α : Type} [Py α]
/-! ### isinstance: the kind is known -/
class Kin (β : Type) [Py β] where
  ty : String
  ok : ∀ {K : PySem.W.Frag} {H : Hp} {v : V} {x : β}, D K H v x → TyX K H v (.type ty)
theorem tyx_list {K : PySem.W.Frag} {H : Hp} {p : Addr} {vs : List V} (h : SqL K H p vs) : TyX K H (.ref p) (.type "list") := by
  rcases h with (h | ⟨o, h⟩) | ⟨o, its, n, h, hc, _⟩
  · exact .base (.lst h)
  · exact .base (.frz h)
  · exact .kList h hc
theorem tyx_tup {K : PySem.W.Frag} {H : Hp} {p : Addr} {vs : List V} (h : SqT K H p vs) : TyX K H (.ref p) (.type "tuple") := by
  rcases h with (h | ⟨o, h⟩) | ⟨o, its, n, h, hc, _⟩
  · exact .base (.tup h)
  · exact .fTuple h
  · exact .kTuple h hc
theorem dp_list {K : PySem.W.Frag} {H : Hp} {v : V} {ds : List PyData} (h : Dq K H v (.list ds)) : TyX K H v (.type "list") := by
  cases h with
  | lst hs _ => exact tyx_list hs
theorem dp_tup {K : PySem.W.Frag} {H : Hp} {v : V} {ds : List PyData} (h : Dq K H v (.tuple ds)) : TyX K H v (.type "tuple") := by
  cases h with
  | tup hs _ => exact tyx_tup (SqT.of hs)
instance : Kin Int := ⟨"int", fun d => by rw [d_int d]; exact .base (.int _)⟩
instance : Kin Bool := ⟨"bool", fun d => by rw [d_bool d]; exact .base (.bl _)⟩
instance : Kin Str := ⟨"str", fun d => by rw [d_str d]; exact .base (.str _)⟩
instance : Kin Unit := ⟨"NoneType", fun d => by cases d; exact .base .non⟩
instance : Kin (List α) := ⟨"list", fun d => dp_list d⟩
instance : Kin (Tp α) := ⟨"tuple", fun d => dp_tup d⟩
instance {β γ : Type} [Py β] [Py γ] : Kin (β × γ) := ⟨"tuple", fun d => dp_tup d⟩
instance {β γ δ : Type} [Py β] [Py γ] [Py δ] : Kin (P3 β γ δ) := ⟨"tuple", fun d => dp_tup d⟩
instance {β γ δ ε : Type} [Py β] [Py γ] [Py δ] [Py ε] : Kin (P4 β γ δ ε) := ⟨"tuple", fun d => dp_tup d⟩
section
variable {K : PySem.W.Frag} {H : Hp} {v : V} {Q : VK} {σ : L2.St}
theorem y_isi {β : Type} [Py β] [Kin β] {x : β} {T : String} {b : Bool} (d : D K H v x) (hb : kitB (Kin.ty β) T = some b) (k : Q (.bl b) H) : rIsi K [v, .ty T] H Q :=
  ⟨v, .ty T, _, .type T, b, rfl, .ty T, Kin.ok d, kit_ty hb, k⟩
theorem y_isiO {β : Type} [Py β] [Kin β] {x : Option β} {T : String} {b b' : Bool} (d : D K H v x) (hb : kitB (Kin.ty β) T = some b) (hb' : kitB "NoneType" T = some b') (k : Q (.bl (if x.isSome then b else b')) H) : rIsi K [v, .ty T] H Q := by
  cases x with
  | none =>
    cases d
    exact ⟨_, .ty T, _, .type T, b', rfl, .ty T, .base .non, kit_ty hb', k⟩
  | some x => exact ⟨v, .ty T, _, .type T, b, rfl, .ty T, Kin.ok (x := x) d, kit_ty hb, k⟩
end
end
section
variable {X : Cx} {K : PySem.W.Frag}
theorem zix_list (hK : X.K = K) : IxR X (rIxL K) := hK ▸ ix_list
theorem zix_tup (hK : X.K = K) : IxR X (rIxT K) := hK ▸ ix_tup
theorem zget_list (hK : X.K = K) : PGet X (rIxL K) := hK ▸ get_list
theorem zsl_list (hK : X.K = K) : SlR X (rSlL K) := hK ▸ sl_list
theorem zop_catS (hK : X.K = K) : OpR X (binaryOp .Add) (rCatS K) := hK ▸ op_catS
theorem zop_eqD (hK : X.K = K) (hu : X.A.units + 64 < cLine) : OpR X (compareOp .Eq) (rEqD K) := hK ▸ op_eqD hu
theorem zop_neD (hK : X.K = K) (hu : X.A.units + 64 < cLine) : OpR X (compareOp .NotEq) (rNeD K) := hK ▸ op_neD hu
theorem zlen (hK : X.K = K) : CallR X (.builtin "len") (rLenZ K) := hK ▸ call_len_seq
theorem zlist (hK : X.K = K) : CallR X (.type "list") (rListZ K) := hK ▸ call_list_of
theorem zisi (hK : X.K = K) : CallR X (.builtin "isinstance") (rIsi K) := hK ▸ call_isi
theorem zall (hK : X.K = K) (hc : X.calm = true) : CallR X (.builtin "all") (rAll K) := hK ▸ cr_all hc
theorem zany (hK : X.K = K) (hc : X.calm = true) : CallR X (.builtin "any") (rAny K) := hK ▸ cr_any hc
theorem zpi_list {tg l : Expr} {tl : TE} (hK : X.K = K) (hl : PE X l tl) : PI X tg l (iList K tl) := hK ▸ pi_list hl
theorem zpi_tup {tg l : Expr} {tl : TE} (hK : X.K = K) (hl : PE X l tl) : PI X tg l (iTup K tl) := hK ▸ pi_tup hl
theorem zsum (hK : X.K = K) (hc : X.calm = true) : CallR X (.builtin "sum") (rSum K) := hK ▸ cr_sum hc
theorem zsortI (hK : X.K = K) : CallR X (.builtin "sorted") (rSortedI K) := hK ▸ cr_sortedI
theorem zop_inD (hK : X.K = K) (hu : X.A.units + 65 < cLine) : OpR X (compareOp .In) (rInD K) := hK ▸ op_inD hu
theorem zop_notInD (hK : X.K = K) (hu : X.A.units + 65 < cLine) : OpR X (compareOp .NotIn) (rNotInD K) := hK ▸ op_notInD hu
end
theorem zpg_tup {X : Cx} {K : PySem.W.Frag} {es : List Expr} {k : Nat} {t : TGs} {n : Nat} {pos : Pos} (hK : X.K = K) (hc : X.calm = true) (h : PGs X es t)
    (hn : (assignEach es X.env).length = n := by rfl) (hst : (assignEach es X.env).findIdx? (·.1) = none := by rfl) : PG X (.Tuple es k pos) (gTup K n t) := hK ▸ pg_tup hc h hn hst
/-- a def that stands at f under the name x -/
structure Cal (P : Program) (w : World) (K : PySem.W.Frag) (mg : Str → Option Value) (base : Heap) (CX : CXT) (x : Str) (ps : List Str) (k : Nat) (sp : Sp) (f : Addr) (fd : FuncData) : Prop where
  ok : FnOk P w K mg base CX k f fd ps sp
  g : mg x = some (.ref f)
  kp : PySem.W.keepIn K (.ref f) = true
  b : Binds K fd ps []
section
variable {X : Cx} {K : PySem.W.Frag} {x n m : Str} {c : Value} {C : Addr} {i : Nat} {body suite : List Stmt} {b₀ : Stmt} {p p2 np pos pos' : Pos} {j : Nat} {tb : WX → TS} {ts : Addr → Value → Option Addr → TS} {W Wout : WX} {bmB : List Value} {B newId initId : String}
theorem zps_try_as (hK : X.K = K) (hs : X.stack = X.env :: X.outer) (hf : X.env.frame = some X.env.locals) (hN : X.N.Nodup) (hi : X.N[i]? = some n) (hln : X.env.kindOf n = some .local) (hc : Names X x c) (tk : Takes X Wout)
    (hb : ∀ (W : WX) (pn : List (Addr × Obj)) (xe : Value → Shared → Prop), Takes (X.tr pn xe) W → PassesOwn (model X.prog X.w) X.A X.env xe → PSs (X.tr pn xe) body (tb W))
    (hsu : ∀ (a : Addr) (oe : Obj) (cls : Value) (d : Option Addr) (pn : List (Addr × Obj)), Zc cls d oe → (∃ vs, oe.data = .fields vs) → PSs (X.suite a ((a, oe) :: pn)) (b₀ :: suite) (ts a cls d)) :
    PS X (.Try body [.ExceptHandler (some (.Name x np)) (some n) (b₀ :: suite) pos'] [] [] pos) (tTryAs K c i tb ts Wout) := hK ▸ ps_try_as hs hf hN hi hln hc tk hb hsu
theorem zps_try_only (hK : X.K = K) (hs : X.stack = X.env :: X.outer) (hf : X.env.frame = some X.env.locals) (hc : Names X x c) (tk : Takes X Wout)
    (hb : ∀ (W : WX) (pn : List (Addr × Obj)) (xe : Value → Shared → Prop), Takes (X.tr pn xe) W → PassesOwn (model X.prog X.w) X.A X.env xe → PSs (X.tr pn xe) body (tb W))
    (hsu : ∀ (a : Addr) (oe : Obj) (cls : Value) (d : Option Addr) (pn : List (Addr × Obj)), Zc cls d oe → (∃ vs, oe.data = .fields vs) → PSs (X.suite a ((a, oe) :: pn)) (b₀ :: suite) (ts a cls d)) :
    PS X (.Try body [.ExceptHandler (some (.Name x np)) none (b₀ :: suite) pos'] [] [] pos) (tTryOnly K c tb ts Wout) := hK ▸ ps_try_only hs hf hc tk hb hsu
theorem zps_raise (hK : X.K = K) (hc : X.calm = true) (tk : Takes X W) (q : PySem.W.excIn K C [.type "ValueError", .type "Exception", .type "BaseException", .type "object"] "ValueError.__new__" = true) (gC : X.mg x = some (.ref C)) (kC : PySem.W.keepIn K (.ref C) = true)
    (h1 : PySem.W.subIn K (.ref C) (.type "BaseException") = some true) (h2 : PySem.W.typeIn K (.ref C) = some (.type "type")) (hg : Gl X x) (hdb : (x == ("__debug__" : Str)) = false := by decide) :
    PS X (.Raise (some (.Call (.Name x p) [.Constant (.str m) j p2] [] pos)) none pos') (tRaise C W) := by
  subst hK
  exact ps_raise hc tk (pmk_own PySem.F.excBase_ValueError q gC kC (raises_own h1 h2) hg hdb)
/-- isinstance of the error that the suite holds -/
def rIsX (K : PySem.W.Frag) (a : Addr) (cls : Value) (d : Option Addr) : List V → Hp → VK → Prop := fun xs H Q => ∃ (D : Addr) (c : V) (cv : Value) (b : Bool), cls = .ref D ∧ d = none ∧ xs = [.ref a, c] ∧ ClsV c cv ∧ ExcC K D ∧ PySem.W.kitOne K (.ref D) cv = some b ∧ Q (.bl b) H
def rIsXT (K : PySem.W.Frag) (a : Addr) (cls : Value) (d : Option Addr) : List V → Hp → VK → Prop := fun xs H Q => ∃ (D : Addr) (tp : Addr) (cs : List V) (us : List Value) (b : Bool), cls = .ref D ∧ d = none ∧ xs = [.ref a, .ref tp] ∧ H tp = some (.tup cs) ∧ Paired ClsV cs us ∧ ExcC K D ∧ PySem.W.kitAny K (.ref D) us = some b ∧ Q (.bl b) H
theorem inst_at {X : Cx} {pins : List (Addr × Obj)} {σ : L2.St} {H : Hp} {s : Shared} {a D : Addr} {oe : Obj} {pn : List (Addr × Obj)} (hz : Zc (.ref D) none oe) (hf : ∃ vs, oe.data = .fields vs) (I : Inv (X.suite a ((a, oe) :: pn)) pins σ H s) : PySem.W.InstAt s.heap a oe D none := by
  have hget := (I.pin (a, oe) (List.mem_append.mpr (.inl List.mem_cons_self))).1
  obtain ⟨vs, hv⟩ := hf
  obtain ⟨oc, od, oda, osl⟩ := oe
  obtain ⟨h1, h2⟩ := hz
  dsimp only at h1 h2 hv
  subst h1 h2 hv
  exact ⟨hget, rfl, rfl, trivial⟩
theorem zisX {a : Addr} {cls : Value} {d : Option Addr} {oe : Obj} {pn : List (Addr × Obj)} (hK : X.K = K) (hz : Zc cls d oe) (hf : ∃ vs, oe.data = .fields vs) : CallR (X.suite a ((a, oe) :: pn)) (.builtin "isinstance") (rIsX K a cls d) := by
  subst hK
  intro pins s σ H xs us Q I r h
  obtain ⟨D, c, cv, b, rfl, rfl, rfl, hcv, C, e, q⟩ := h
  obtain ⟨u1, u2, rfl, r1, r2⟩ := vals2 r
  cases (show u1 = Value.ref a from r1)
  have ec := hcv.eq r2
  subst ec
  exact PySem.W.kia_one (PySem.W.handS_kitx_exc C.hg C.hk C.hs C.hd C.ha C.hn C.ht C.hm) I.kIn (inst_at hz hf I) e (fun z => nomatch z) fun tk => ⟨.bl b, H, I.tok tk, rfl, q⟩
theorem zisXT {a : Addr} {cls : Value} {d : Option Addr} {oe : Obj} {pn : List (Addr × Obj)} (hK : X.K = K) (hz : Zc cls d oe) (hf : ∃ vs, oe.data = .fields vs) : CallR (X.suite a ((a, oe) :: pn)) (.builtin "isinstance") (rIsXT K a cls d) := by
  subst hK
  intro pins s σ H xs us Q I r h
  obtain ⟨D, tp, cs, ws, b, rfl, rfl, rfl, hT, k, C, e, q⟩ := h
  obtain ⟨u1, u2, rfl, r1, r2⟩ := vals2 r
  cases (show u1 = Value.ref a from r1)
  cases (show u2 = Value.ref tp from r2)
  obtain ⟨_, its, rv, o, h1, h2, n, h3⟩ := (show ObjOk X.prog X.w H s.heap tp (.tup cs) from I.hok tp _ hT)
  have e3 := ClsV.all k rv
  subst e3
  obtain ⟨oc, od, dt, sl⟩ := o
  simp only at h2 h3
  subst h2 h3
  exact PySem.W.kia_tup (PySem.W.handS_kitx_exc C.hg C.hk C.hs C.hd C.ha C.hn C.ht C.hm) I.kIn (inst_at hz hf I) h1 e (fun z => nomatch z) fun tk => ⟨.bl b, H, I.tok tk, rfl, q⟩
end
section
variable {σ : L2.St} {H : Hp} {K : PySem.W.Frag}
inductive TCs : TA → List V → Prop where
  | nil : TCs tNil []
  | cons {v : V} {vs : List V} {t : TA} (h : TCs t vs) : TCs (tCons (tC v) t) (v :: vs)
theorem TCs.run {t : TA} {vs : List V} (h : TCs t vs) : ∀ {σ : L2.St} {H : Hp} {Q : List V → Hp → Prop}, Q vs H → t σ H Q := by
  induction h with
  | nil => exact fun q => q
  | cons h ih => exact fun q => ih q
theorem y_isX {cl : Nat → Addr} {n : Nat} {a : Addr} {Q : VK} {v : V} {cv : Value} {b : Bool} (xc : ExcC K (cl n)) (k : ClsV v cv) (e : PySem.W.kitOne K (.ref (cl n)) cv = some b) (q : Q (.bl b) H) : rIsX K a (.ref (cl n)) none [.ref a, v] H Q :=
  ⟨cl n, v, cv, b, rfl, rfl, rfl, k, xc, e, q⟩
theorem y_isXT {cl : Nat → Addr} {n : Nat} {a : Addr} {Q : VK} {rs : List (Addr × HO)} {Ho : Hp} {vs : List V} {us : List Value} {b : Bool} {ts : TA} (z : Zs rs H Ho) (xc : ExcC K (cl n)) (ht : TCs ts vs) (k : Paired ClsV vs us) (e : PySem.W.kitAny K (.ref (cl n)) us = some b) (q : ∀ H' Ho', Same Ho Ho' → Zs rs H' Ho' → Q (.bl b) H') (hl : vs.length ≤ sizeLine := by decide) :
    tTup ts σ H fun x H1 => rIsXT K a (.ref (cl n)) none [.ref a, x] H1 Q := by
  refine ht.run ⟨hl, fun p hp => ?_⟩
  have e3 : Same Ho (upd Ho p (.tup vs)) := Same.new (z.free hp)
  exact ⟨cl n, p, vs, us, b, rfl, rfl, rfl, upd_same, k, xc, e, q _ _ e3 (z.alloc hp)⟩
theorem kitAny_or {t c : Value} {cs : List Value} {b r : Bool} (h : PySem.W.kitOne K t c = some b) (hr : PySem.W.kitAny K t cs = some r) : PySem.W.kitAny K t (c :: cs) = some (b || r) := by
  refine kitAny_cons h (fun e => ?_) (fun e => by rw [e]; rfl)
  rw [e]; exact hr
end

section
variable {X : Cx} {K : PySem.W.Frag} {tg e e2 : Expr} {ta : TA} {p pos tpos : Pos} {elts : List Expr} {kk : Nat}
theorem zpi_zip (hK : X.K = K) (hg : Gl X "zip") (hm : X.mg "zip" = none) (ha : PA X [e, e2] ta)
    (hs : starEach [e, e2] X.env = (false, eval e X.env) :: starEach [e2] X.env := by rfl) (hpl : (backTo pos (starEach [e2] X.env)).any (·.1) = false := by rfl) :
    PI X (.Tuple elts kk tpos) (.Call (.Name "zip" p) [e, e2] [] pos) (iZip K ta) := hK ▸ pi_zip hg hm ha hs hpl
theorem zpi_enum (hK : X.K = K) (hg : Gl X "enumerate") (hm : X.mg "enumerate" = none) (ha : PA X [e] ta) (hs : starEach [e] X.env = [(false, eval e X.env)] := by rfl) :
    PI X (.Tuple elts kk tpos) (.Call (.Name "enumerate" p) [e] [] pos) (iEnum K ta) := hK ▸ pi_enum hg hm ha hs
end
theorem zpi_rev {X : Cx} {K : PySem.W.Frag} {tg e : Expr} {ta : TA} {p pos : Pos} (hK : X.K = K) (hg : Gl X "reversed") (hm : X.mg "reversed" = none) (ha : PA X [e] ta) (hs : starEach [e] X.env = [(false, eval e X.env)] := by rfl) : PI X tg (.Call (.Name "reversed" p) [e] [] pos) (iRev K ta) := hK ▸ pi_reversed hg hm ha hs
end Z

/-! # Yg: what is one's own, by groups of roots -/
namespace Z
open PySem PySem.Spec PyProof.Rows L2
abbrev Grp := List (Addr × HO)
/-- groups, in a row, ahead of the rest -/
def rowG (gs : List Grp) (amb : Grp) : Grp := gs.foldr (· ++ ·) amb
theorem rowG_eq (gs : List Grp) (amb : Grp) : rowG gs amb = gs.flatten ++ amb := by
  induction gs with
  | nil => rfl
  | cons g gs ih => show g ++ rowG gs amb = _; rw [ih, List.flatten_cons, List.append_assoc]
theorem mg0 {g R : Grp} : ∀ r ∈ g, r ∈ g ++ R := fun _ h => List.mem_append_left _ h
theorem mgS {g h R : Grp} (k : ∀ r ∈ g, r ∈ R) : ∀ r ∈ g, r ∈ h ++ R := fun r m => List.mem_append_right _ (k r m)
theorem room65 {k : Nat} {A : Around} (r : Room k A) : A.units + 65 < cLine := by have := r.un; omega
theorem mgN {rs : Grp} : ∀ r ∈ ([] : Grp), r ∈ rs := fun _ m => nomatch m
theorem mgE {g : Grp} : ∀ r ∈ g, r ∈ g := fun _ h => h
section
variable {K : PySem.W.Frag} {H Ho H' Ho' : Hp} {rs : Grp}
theorem sel_nodup {α β : Type} (f : α → β) (l : List (List α)) (is : List Nat) (hn : is.Nodup) (h : (l.flatten.map f).Nodup) : ((is.filterMap fun i => l[i]?).flatten.map f).Nodup := by
  rw [List.map_flatten] at h ⊢
  unfold List.Nodup at h ⊢
  rw [List.pairwise_flatten] at h ⊢
  have sub : ∀ g ∈ (is.filterMap fun i => l[i]?), g ∈ l := fun r hr => by
    obtain ⟨i, _, e⟩ := List.mem_filterMap.mp hr
    exact List.mem_of_getElem? e
  refine ⟨fun g hg => ?_, ?_⟩
  · obtain ⟨r, hr, rfl⟩ := List.mem_map.mp hg
    exact h.1 _ (List.mem_map.mpr ⟨r, sub r hr, rfl⟩)
  · rw [List.pairwise_map]
    have h2 := h.2
    rw [List.pairwise_map] at h2
    refine List.Pairwise.filterMap _ (fun i j hij a ha b hb => ?_) hn
    rw [List.pairwise_iff_getElem] at h2
    have hl1 := (List.getElem?_eq_some_iff.mp ha)
    have hl2 := (List.getElem?_eq_some_iff.mp hb)
    obtain ⟨hi, rfl⟩ := hl1
    obtain ⟨hj, rfl⟩ := hl2
    rcases Nat.lt_or_gt_of_ne hij with c | c
    · exact h2 i j hi hj c
    · exact fun x hx y hy e => h2 j i hj hi c y hy x hx e.symm
/-- some of the groups, in any order -/
theorem Zs.go {rs rs' : Grp} (gs : List Grp) (amb : Grp) (is : List Nat) (z : Zs rs H Ho) (h1 : rs = rowG gs amb := by rfl) (h2 : rs' = rowG (is.filterMap fun i => gs[i]?) amb := by rfl) (hn : is.Nodup := by decide) : Zs rs' H Ho := by
  subst h1 h2
  rw [rowG_eq] at z ⊢
  have sub : ∀ r ∈ (is.filterMap fun i => gs[i]?).flatten, r ∈ gs.flatten := fun r hr => by
    obtain ⟨g, hg, hr⟩ := List.mem_flatten.mp hr
    obtain ⟨i, _, e⟩ := List.mem_filterMap.mp hg
    exact List.mem_flatten.mpr ⟨g, List.mem_of_getElem? e, hr⟩
  have sub2 : ∀ r ∈ (is.filterMap fun i => gs[i]?).flatten ++ amb, r ∈ gs.flatten ++ amb := fun r hr => by
    rcases List.mem_append.mp hr with h | h
    · exact List.mem_append_left _ (sub r h)
    · exact List.mem_append_right _ h
  refine ⟨z.le, fun r hr => z.rt r (sub2 r hr), ?_, fun r hr => z.nt r (sub2 r hr)⟩
  · have nd := z.nd
    rw [List.map_append, List.nodup_append] at nd ⊢
    refine ⟨sel_nodup _ gs is hn nd.1, nd.2.1, fun a ha b hb e => ?_⟩
    obtain ⟨r, hr, rfl⟩ := List.mem_map.mp ha
    exact nd.2.2 _ (List.mem_map.mpr ⟨r, sub r hr, rfl⟩) b hb e
end
/-! ### ways, without data -/
section
variable {α β γ : Type} {Φ : γ → Prop}
theorem run_gd {p : Prop} {c : W γ} (h : (W.guard p c).run Φ) : p ∧ c.run Φ := h
theorem run_opt' {o : Option β} {f : β → W γ} (h : (W.bind (W.opt o) f).run Φ) : ∃ a, o = some a ∧ (f a).run Φ := h
theorem run_itT {A B : W γ} {b : Bool} (h : (W.ite b A B).run Φ) (e : b = true) : A.run Φ := h.1 e
theorem run_itF {A B : W γ} {b : Bool} (h : (W.ite b A B).run Φ) (e : b = false) : B.run Φ := h.2 e
theorem run_bret {e : β} {f : β → W γ} (h : (W.bind (W.ret e) f).run Φ) : (f e).run Φ := h
theorem w_two {b : Bool} {X Y : Prop} (h1 : b = true → X) (h2 : b = false → Y) : if b = true then X else Y := by
  cases b with
  | true => exact iteT (h1 rfl)
  | false => exact iteF (h2 rfl)
theorem exm_mono {c : W (Ex β)} {N N' : β → Prop} {X X' : Er → Prop} (h : c.run (ExP N X)) (h1 : ∀ a, N a → N' a) (h2 : ∀ e, X e → X' e) : c.run (ExP N' X') :=
  c.mono _ _ (fun r hr => by cases r with | ok a => exact h1 a hr | er e => exact h2 e hr) h
theorem run_mono' {c : W β} {N N' : β → Prop} (h : c.run N) (k : ∀ a, N a → N' a) : c.run N' := c.mono _ _ k h
theorem run_mono3 {c : W β} {f : β → W γ} {N : β → Prop} (hw : (W.bind c f).run Φ) (k : ∀ a, (f a).run Φ → N a) : c.run N := c.mono _ _ (fun r h => k r h) hw
theorem run_mono2 {c : W (α × β)} {f : α → β → W γ} {N : α × β → Prop} (hw : (W.bind2 c f).run Φ) (k : ∀ a b, (f a b).run Φ → N (a, b)) : c.run N := c.mono _ _ (fun r h => k r.1 r.2 h) hw
theorem run_b {c : W β} {f : β → W γ} (h : (W.bind c f).run Φ) : c.run fun a => (f a).run Φ := h
theorem run_b2 {c : W (α × β)} {f : α → β → W γ} (h : (W.bind2 c f).run Φ) : c.run fun r => (f r.1 r.2).run Φ := h
end
/-! ### lists of data of one's own -/
section
variable {K : PySem.W.Frag} {H Ho H' Ho' : Hp} {α β γ : Type} [Py α] [Py β] {Φ : γ → Prop} {R : Grp} {v w : V} {Q : VK}
def OL (K : PySem.W.Frag) (Ho : Hp) (v : V) (xs : List α) (g : Grp) : Prop := ∃ p vs, v = .ref p ∧ DL K Ho vs xs ∧ g = [(p, .lst vs)]
theorem OL.mo {v : V} {xs : List α} {g : Grp} (h : OL K Ho v xs g) (e : Same Ho Ho') : OL K Ho' v xs g := by
  obtain ⟨p, vs, rfl, d, rfl⟩ := h
  exact ⟨p, vs, rfl, DL.mo d e, rfl⟩
theorem OL.mk {p : Addr} {ws : List V} {xs : List α} (d : DL K Ho ws xs) : OL K Ho (.ref p) xs [(p, .lst ws)] := ⟨p, ws, rfl, d, rfl⟩
theorem OL.lv {xs : List α} {g : Grp} (h : OL K Ho v xs g) (m : ∀ r ∈ g, r ∈ R) : LV K R Ho v xs := by
  obtain ⟨p, vs, rfl, d, rfl⟩ := h
  exact ⟨p, vs, rfl, d, .inr (m _ (List.mem_singleton.mpr rfl))⟩
/-- a list of its own stands for good from now on -/
theorem OL.fr {xs : List α} {g : Grp} (h : OL K Ho v xs g) (z : Zs (g ++ R) H Ho) : ∃ Ho', Same Ho Ho' ∧ Zs R H Ho' ∧ Z.D K Ho' v xs := by
  obtain ⟨p, vs, rfl, d, rfl⟩ := h
  exact frz z d
theorem g_tyL {P : Prop} {xs : List α} (d : LV K R Ho v xs) (z : Zs R H Ho) (k : P) : tyV K "list" v H ∧ P := by
  obtain ⟨p, vs, rfl, _, s⟩ := LV.rd d z
  exact ⟨.inl ⟨rfl, _, s⟩, k⟩
theorem g_app {xs : List α} {x : α} {g : Grp} {f : List α → W γ} (z : Zs (g ++ R) H Ho) (o : OL K Ho v xs g) (dx : Z.D K Ho w x) (hw : (W.bind (apd xs x) f).run Φ) (k : ∀ xs' g' H', Zs (g' ++ R) H' Ho → OL K Ho v xs' g' → (f xs').run Φ → Q .non H') : rAppend v [w] H Q := by
  obtain ⟨p, vs, rfl, d, rfl⟩ := o
  exact ⟨p, vs, w, rfl, rfl, z.head, by rw [DL.len d]; exact hw.1, k _ _ _ z.put ⟨p, _, rfl, d.push dx, rfl⟩ hw.2⟩
theorem g_ext {xs ys : List α} {g g2 : Grp} {f : List α → W γ} (z : Zs (g2 ++ (g ++ R)) H Ho) (o : OL K Ho v xs g) (o2 : OL K Ho w ys g2) (hw : (W.bind (exd xs ys) f).run Φ) (k : ∀ xs' g' H', Zs (g' ++ R) H' Ho → OL K Ho v xs' g' → (f xs').run Φ → Q .non H') : rExtend v [w] H Q := by
  obtain ⟨p, vs, rfl, d, rfl⟩ := o
  obtain ⟨q, us, rfl, d2, rfl⟩ := o2
  have z1 : Zs ((p, .lst vs) :: (q, .lst us) :: R) H Ho := Zs.sw1 z
  exact ⟨p, q, vs, us, rfl, rfl, z1.head, z.head, by rw [DL.len d, DL.len d2]; exact hw.1, k _ _ _ (Zs.tail (Zs.sw1 z1.put)) ⟨p, _, rfl, d.append d2, rfl⟩ hw.2⟩
/-- xs.insert(i, x) -/
def insL {α : Type} (xs : List α) (i : Int) (x : α) : W (List α) := W.guard (xs.length < sizeLine ∧ 0 ≤ i ∧ i < 2 ^ 63) (W.ret (xs.take i.toNat ++ [x] ++ xs.drop i.toNat))
theorem dpAll_takeG {vs : List V} {ds : List PyData} (h : DqAll K H vs ds) (n : Nat) : DqAll K H (vs.take n) (ds.take n) := dpAll_take h n
theorem g_ins {xs : List α} {x : α} {i : Int} {g : Grp} {f : List α → W γ} (z : Zs (g ++ R) H Ho) (o : OL K Ho v xs g) (dx : Z.D K Ho w x) (hw : (W.bind (insL xs i x) f).run Φ) (k : ∀ xs' g' H', Zs (g' ++ R) H' Ho → OL K Ho v xs' g' → (f xs').run Φ → Q .non H') :
    (fun x vs H Q => ∃ (l : Addr) (xs : List V) (i : Int) (y : V), x = .ref l ∧ vs = [.int i, y] ∧ H l = some (.lst xs) ∧ xs.length < sizeLine ∧ 0 ≤ i ∧ i < 2 ^ 63 ∧ Q .non (upd H l (.lst (xs.take i.toNat ++ [y] ++ xs.drop i.toNat))) : V → List V → Hp → VK → Prop) v [.int i, w] H Q := by
  obtain ⟨p, vs, rfl, d, rfl⟩ := o
  obtain ⟨⟨h1, h2, h3⟩, hw⟩ := hw
  refine ⟨p, vs, i, w, rfl, rfl, z.head, by rw [DL.len d]; exact h1, h2, h3, k _ _ _ z.put ⟨p, _, rfl, ?_, rfl⟩ hw⟩
  show DqAll _ _ _ ((xs.take i.toNat ++ [x] ++ xs.drop i.toNat).map Py.toPy)
  rw [List.map_append, List.map_append, List.map_take, List.map_drop]
  exact dpAll_append (dpAll_append (dpAll_take d _) (.cons dx .nil)) (dpAll_drop d _)
theorem g_clear {xs : List α} {g : Grp} (z : Zs (g ++ R) H Ho) (o : OL K Ho v xs g) (k : ∀ g' H', Zs (g' ++ R) H' Ho → OL K Ho v ([] : List α) g' → Q .non H') : rClear v [] H Q := by
  obtain ⟨p, vs, rfl, d, rfl⟩ := o
  exact ⟨p, vs, rfl, rfl, z.head, k _ _ z.put ⟨p, _, rfl, .nil, rfl⟩⟩
theorem dpAll_rev {vs : List V} {ds : List PyData} (h : DqAll K H vs ds) : DqAll K H vs.reverse ds.reverse := by
  induction vs generalizing ds with
  | nil => cases h; exact .nil
  | cons v vs ih => cases h with | cons h1 h2 => rw [List.reverse_cons, List.reverse_cons]; exact dpAll_append (ih h2) (.cons h1 .nil)
theorem g_rev {xs : List α} {g : Grp} (z : Zs (g ++ R) H Ho) (o : OL K Ho v xs g) (k : ∀ g' H', Zs (g' ++ R) H' Ho → OL K Ho v xs.reverse g' → Q .non H') : rReverse v [] H Q := by
  obtain ⟨p, vs, rfl, d, rfl⟩ := o
  refine ⟨p, vs, rfl, rfl, z.head, k _ _ z.put ⟨p, _, rfl, ?_, rfl⟩⟩
  show DqAll _ _ _ (xs.reverse.map Py.toPy)
  rw [List.map_reverse]
  exact dpAll_rev d
theorem g_sti {xs : List α} {x : α} {i : Int} {g : Grp} {QH : Hp → Prop} {f : List α → W γ} (z : Zs (g ++ R) H Ho) (o : OL K Ho v xs g) (dx : Z.D K Ho w x) (hw : (W.bind (sti xs i x) f).run Φ) (k : ∀ xs' g' H', Zs (g' ++ R) H' Ho → OL K Ho v xs' g' → (f xs').run Φ → QH H') : rSetL v (.int i) w H QH := by
  obtain ⟨p, vs, rfl, d, rfl⟩ := o
  obtain ⟨j, ej, hw⟩ := hw
  exact ⟨p, vs, i, j, rfl, rfl, z.head, by rw [DL.len d]; exact ej, k _ _ _ z.put ⟨p, _, rfl, DL.set d dx j, rfl⟩ hw⟩
theorem g_pop {xs : List α} {g : Grp} {f : α → W γ} (z : Zs (g ++ R) H Ho) (o : OL K Ho v xs g) (hw : (W.bind (popL xs) f).run Φ) (k : ∀ t w g' H', Zs (g' ++ R) H' Ho → OL K Ho v xs.dropLast g' → Z.D K Ho w t → (f t).run Φ → Q w H') : rPop v [] H Q := by
  obtain ⟨p, vs, rfl, d, rfl⟩ := o
  exact y_pop (n := 0) z rfl d hw fun t w ws' H' z' d' dw hw => k t w _ H' z' ⟨p, _, rfl, d', rfl⟩ dw hw
theorem g_popI {xs : List α} {i : Int} {g : Grp} {f : α × List α → W γ} (z : Zs (g ++ R) H Ho) (o : OL K Ho v xs g) (hw : (W.bind (popI xs i) f).run Φ) (k : ∀ t xs' w g' H', Zs (g' ++ R) H' Ho → OL K Ho v xs' g' → Z.D K Ho w t → (f (t, xs')).run Φ → Q w H') : rPopAt v [.int i] H Q := by
  obtain ⟨p, vs, rfl, d, rfl⟩ := o
  exact y_popI (n := 0) z rfl d hw fun t xs' w ws' H' z' d' dw hw => k t xs' w _ H' z' ⟨p, _, rfl, d', rfl⟩ dw hw
/-! ### a value gets a name -/
def LetV (G : V → Prop) (v : V) : Prop := G v
theorem l_asg {u : TS} {te : TE} {D : Ends} {σ : L2.St} {i : Nat} (σ' : V → L2.St) (hσ : ∀ v, σ.set i (some v) = σ' v) (k : te σ H fun v H1 => LetV (fun v => u D (σ' v) H1) v) : tSeq (tAsg te (gName i)) u D σ H := by
  have e : (fun v H1 => LetV (fun v => u D (σ' v) H1) v) = fun v H1 => u D (σ.set i (some v)) H1 := by funext v H1; rw [hσ]; rfl
  rw [e] at k
  exact k
variable {G : V → Prop}
theorem l_n (k : G .non) : LetV G .non := k
theorem l_i {e : Int} {f : Int → W γ} (hw : (W.bind (W.ret e) f).run Φ) (k : ∀ x, (f x).run Φ → G (.int x)) : LetV G (.int e) := k e hw
theorem l_b {e : Bool} {f : Bool → W γ} (hw : (W.bind (W.ret e) f).run Φ) (k : ∀ x, (f x).run Φ → G (.bl x)) : LetV G (.bl e) := k e hw
theorem l_s {e : Str} {f : Str → W γ} (hw : (W.bind (W.ret e) f).run Φ) (k : ∀ x, (f x).run Φ → G (.str x)) : LetV G (.str e) := k e hw
theorem l_d {e : α} {f : α → W γ} (hw : (W.bind (W.ret e) f).run Φ) (d : Z.D K Ho v e) (k : ∀ x v, Z.D K Ho v x → (f x).run Φ → G v) : LetV G v := k e v d hw
theorem l_o {e : List α} {g : Grp} {f : List α → W γ} (hw : (W.bind (W.ret e) f).run Φ) (z : Zs (g ++ R) H Ho) (o : OL K Ho v e g) (k : ∀ x v g, Zs (g ++ R) H Ho → OL K Ho v x g → (f x).run Φ → G v) : LetV G v := k e v g z o hw
/-- what is told stands for good -/
theorem l_fr {P : Prop} {xs : List α} {g : Grp} (o : OL K Ho v xs g) (z : Zs (g ++ R) H Ho) (k : ∀ Ho', Same Ho Ho' → Zs R H Ho' → Z.D K Ho' v xs → P) : P := by
  obtain ⟨Ho', e, z', d⟩ := o.fr z
  exact k Ho' e z' d
/-! ### ways -/
theorem w_t {X Y : Prop} (k : X) : if true = true then X else Y := by simpa using k
/-- both ways tell a value and change nothing -/
theorem w_if {σ : L2.St} {ta tb : TE} {c : Bool} {a b : β} (mk : β → V) (h1 : c = true → Q (mk a) H → ta σ H Q) (h2 : c = false → Q (mk b) H → tb σ H Q) (k : Q (mk (if c = true then a else b)) H) : if c = true then ta σ H Q else tb σ H Q := by
  cases c with
  | true => exact iteT (h1 rfl k)
  | false => exact iteF (h2 rfl k)
theorem w_andP {σ : L2.St} {tu : TT} {QB : Bool → Hp → Prop} {a : Bool} (b : Bool) (h : a = true → QB b H → tu σ H QB) (k : QB (a && b) H) : if a = true then tu σ H QB else QB false H := by
  cases a with
  | true => exact iteT (h rfl k)
  | false => exact iteF k
theorem w_orP {σ : L2.St} {tu : TT} {QB : Bool → Hp → Prop} {a : Bool} (b : Bool) (h : a = false → QB b H → tu σ H QB) (k : QB (a || b) H) : if a = true then QB true H else tu σ H QB := by
  cases a with
  | true => exact iteT k
  | false => exact iteF (h rfl k)
theorem w_andPV {σ : L2.St} {tb : TE} {a : Bool} (b : Bool) (h : a = true → Q (.bl b) H → tb σ H Q) (k : Q (.bl (a && b)) H) : if a = true then tb σ H Q else Q (.bl false) H := by
  cases a with
  | true => exact iteT (h rfl k)
  | false => exact iteF k
theorem w_orPV {σ : L2.St} {tb : TE} {a : Bool} (b : Bool) (h : a = false → Q (.bl b) H → tb σ H Q) (k : Q (.bl (a || b)) H) : if a = true then Q (.bl true) H else tb σ H Q := by
  cases a with
  | true => exact iteT k
  | false => exact iteF (h rfl k)
theorem w_chain {σ : L2.St} {tc : TE} {r' : R2} {y : V} {a : Bool} (b : Bool) (h : a = true → Q (.bl b) H → tc σ H fun w' H4 => r' y w' H4 Q) (k : Q (.bl (a && b)) H) : if a = true then tc σ H (fun w' H4 => r' y w' H4 Q) else Q (.bl false) H := by
  cases a with
  | true => exact iteT (h rfl k)
  | false => exact iteF k
/-! ways that meet -/
section
variable {S ρ : Type} {b : Bool} {c1 c2 : W S} {f : S → W γ} {σ : L2.St} {D : Ends} {u t1 t2 : TS} {tu : TT} {ta tb : TE} {QB : Bool → Hp → Prop}
theorem w_ifJ (hw : (W.bind (W.ite b c1 c2) f).run Φ) (J : S → L2.St → Hp → Prop)
    (h1 : b = true → c1.run (fun s => ∀ σ' H', J s σ' H' → u D σ' H') → t1 { D with nx := u D } σ H)
    (h2 : b = false → c2.run (fun s => ∀ σ' H', J s σ' H' → u D σ' H') → t2 { D with nx := u D } σ H)
    (k : ∀ s σ' H', J s σ' H' → (f s).run Φ → u D σ' H') : if b = true then t1 { D with nx := u D } σ H else t2 { D with nx := u D } σ H := by
  cases b with
  | true => exact iteT (h1 rfl (W.mono _ _ _ (fun s q σ' H' j => k s σ' H' j q) (hw.1 rfl)))
  | false => exact iteF (h2 rfl (W.mono _ _ _ (fun s q σ' H' j => k s σ' H' j q) (hw.2 rfl)))
theorem w_ifC {Φ : ρ → Prop} {c1 c2 : W (Ctl ρ S)} {f : S → W ρ} (hw : (W.bind (W.ite b c1 c2) fun c => W.after c f).run Φ) (J : S → L2.St → Hp → Prop)
    (h1 : b = true → c1.run (CtlP (fun s => ∀ σ' H', J s σ' H' → u D σ' H') (fun s => ∀ σ' H', J s σ' H' → u D σ' H') Φ) → t1 { D with nx := u D } σ H)
    (h2 : b = false → c2.run (CtlP (fun s => ∀ σ' H', J s σ' H' → u D σ' H') (fun s => ∀ σ' H', J s σ' H' → u D σ' H') Φ) → t2 { D with nx := u D } σ H)
    (k : ∀ s σ' H', J s σ' H' → (f s).run Φ → u D σ' H') : if b = true then t1 { D with nx := u D } σ H else t2 { D with nx := u D } σ H := by
  have m : ∀ c : W (Ctl ρ S), c.run (fun c => (W.after c f).run Φ) → c.run (CtlP (fun s => ∀ σ' H', J s σ' H' → u D σ' H') (fun s => ∀ σ' H', J s σ' H' → u D σ' H') Φ) := fun c h => c.mono _ _ (fun r q => by
    cases r with
    | nx s => exact fun σ' H' j => k s σ' H' j q
    | bk s => exact fun σ' H' j => k s σ' H' j q
    | rt r => exact q) h
  cases b with
  | true => exact iteT (h1 rfl (m _ (hw.1 rfl)))
  | false => exact iteF (h2 rfl (m _ (hw.2 rfl)))
theorem w_andJ (hw : (W.bind (W.ite b c1 c2) f).run Φ) (J : S → Bool → Hp → Prop)
    (h1 : b = true → c1.run (fun s => ∀ v H', J s v H' → QB v H') → tu σ H QB)
    (h2 : b = false → c2.run (fun s => ∀ v H', J s v H' → QB v H') → QB false H)
    (k : ∀ s v H', J s v H' → (f s).run Φ → QB v H') : if b = true then tu σ H QB else QB false H := by
  cases b with
  | true => exact iteT (h1 rfl (W.mono _ _ _ (fun s q v H' j => k s v H' j q) (hw.1 rfl)))
  | false => exact iteF (h2 rfl (W.mono _ _ _ (fun s q v H' j => k s v H' j q) (hw.2 rfl)))
theorem w_orJ (hw : (W.bind (W.ite b c1 c2) f).run Φ) (J : S → Bool → Hp → Prop)
    (h1 : b = true → c1.run (fun s => ∀ v H', J s v H' → QB v H') → QB true H)
    (h2 : b = false → c2.run (fun s => ∀ v H', J s v H' → QB v H') → tu σ H QB)
    (k : ∀ s v H', J s v H' → (f s).run Φ → QB v H') : if b = true then QB true H else tu σ H QB := by
  cases b with
  | true => exact iteT (h1 rfl (W.mono _ _ _ (fun s q v H' j => k s v H' j q) (hw.1 rfl)))
  | false => exact iteF (h2 rfl (W.mono _ _ _ (fun s q v H' j => k s v H' j q) (hw.2 rfl)))
theorem w_andVJ (hw : (W.bind (W.ite b c1 c2) f).run Φ) (J : S → V → Hp → Prop)
    (h1 : b = true → c1.run (fun s => ∀ v H', J s v H' → Q v H') → tb σ H Q)
    (h2 : b = false → c2.run (fun s => ∀ v H', J s v H' → Q v H') → Q (.bl false) H)
    (k : ∀ s v H', J s v H' → (f s).run Φ → Q v H') : if b = true then tb σ H Q else Q (.bl false) H := by
  cases b with
  | true => exact iteT (h1 rfl (W.mono _ _ _ (fun s q v H' j => k s v H' j q) (hw.1 rfl)))
  | false => exact iteF (h2 rfl (W.mono _ _ _ (fun s q v H' j => k s v H' j q) (hw.2 rfl)))
theorem w_orVJ (hw : (W.bind (W.ite b c1 c2) f).run Φ) (J : S → V → Hp → Prop)
    (h1 : b = true → c1.run (fun s => ∀ v H', J s v H' → Q v H') → Q (.bl true) H)
    (h2 : b = false → c2.run (fun s => ∀ v H', J s v H' → Q v H') → tb σ H Q)
    (k : ∀ s v H', J s v H' → (f s).run Φ → Q v H') : if b = true then Q (.bl true) H else tb σ H Q := by
  cases b with
  | true => exact iteT (h1 rfl (W.mono _ _ _ (fun s q v H' j => k s v H' j q) (hw.1 rfl)))
  | false => exact iteF (h2 rfl (W.mono _ _ _ (fun s q v H' j => k s v H' j q) (hw.2 rfl)))
theorem w_ifEJ (hw : (W.bind (W.ite b c1 c2) f).run Φ) (J : S → V → Hp → Prop)
    (h1 : b = true → c1.run (fun s => ∀ v H', J s v H' → Q v H') → ta σ H Q)
    (h2 : b = false → c2.run (fun s => ∀ v H', J s v H' → Q v H') → tb σ H Q)
    (k : ∀ s v H', J s v H' → (f s).run Φ → Q v H') : if b = true then ta σ H Q else tb σ H Q := by
  cases b with
  | true => exact iteT (h1 rfl (W.mono _ _ _ (fun s q v H' j => k s v H' j q) (hw.1 rfl)))
  | false => exact iteF (h2 rfl (W.mono _ _ _ (fun s q v H' j => k s v H' j q) (hw.2 rfl)))
end
/-! ### targets -/
section
variable {δ ε : Type} [Py δ] [Py ε] {i j l m : Nat} {x : V} {σ : L2.St} {QS : L2.St → Hp → Prop} {rs : Grp}
theorem c_gt2 {a : α × β} (σ' : V → V → L2.St) (hσ : ∀ v u, (σ.set i (some v)).set j (some u) = σ' v u) (d : Z.D K Ho x a) (z : Zs rs H Ho) (k : ∀ v u, Z.D K Ho v a.1 → Z.D K Ho u a.2 → QS (σ' v u) H) : gTup K 2 (gCons (gName i) (gCons (gName j) gNil)) x σ H QS :=
  y_gt2 d z fun v u d1 d2 => by rw [hσ]; exact k v u d1 d2
theorem c_gt3 {a : P3 α β δ} (σ' : V → V → V → L2.St) (hσ : ∀ v u w, ((σ.set i (some v)).set j (some u)).set l (some w) = σ' v u w) (d : Z.D K Ho x a) (z : Zs rs H Ho) (k : ∀ v u w, Z.D K Ho v a.a → Z.D K Ho u a.b → Z.D K Ho w a.c → QS (σ' v u w) H) : gTup K 3 (gCons (gName i) (gCons (gName j) (gCons (gName l) gNil))) x σ H QS :=
  y_gt3 d z fun v u w d1 d2 d3 => by rw [hσ]; exact k v u w d1 d2 d3
theorem c_gt4 {a : P4 α β δ ε} (σ' : V → V → V → V → L2.St) (hσ : ∀ v u w t, (((σ.set i (some v)).set j (some u)).set l (some w)).set m (some t) = σ' v u w t) (d : Z.D K Ho x a) (z : Zs rs H Ho) (k : ∀ v u w t, Z.D K Ho v a.a → Z.D K Ho u a.b → Z.D K Ho w a.c → Z.D K Ho t a.d → QS (σ' v u w t) H) : gTup K 4 (gCons (gName i) (gCons (gName j) (gCons (gName l) (gCons (gName m) gNil)))) x σ H QS :=
  y_gt4 d z fun v u w t d1 d2 d3 d4 => by rw [hσ]; exact k v u w t d1 d2 d3 d4
theorem l_u {e : α} {f : α → W γ} {P : V → Prop} (hw : (W.bind (W.ret e) f).run Φ) (d : Z.D K Ho v e) (k : ∀ x v, Z.D K Ho v x → (f x).run Φ → P v) : P v := k e v d hw
theorem l_u2 {e : α} {f : α → W γ} {P : Prop} (hw : (W.bind (W.ret e) f).run Φ) (d : Z.D K Ho v e) (k : ∀ x, Z.D K Ho v x → (f x).run Φ → P) : P := k e d hw
theorem l_aug {te : TE} {tip : TIp} {u : TS} {D : Ends} (σ' : V → L2.St) (h : σ[i]? = some (some v)) (hσ : ∀ v, σ.set i (some v) = σ' v) (k : te σ H fun y H1 => tip v y H1 fun z H2 => LetV (fun v => u D (σ' v) H2) z) : tSeq (tAug i te tip) u D σ H := by
  refine y_aug σ' h hσ ?_
  exact k
end
/-! ### lists of unlike things -/
section
class Hc (α : Type) where
  cs : α → List PyData
structure H2 (α β : Type) where
  a : α
  b : β
  deriving DecidableEq
structure H3 (α β γ : Type) where
  a : α
  b : β
  c : γ
  deriving DecidableEq
structure H4 (α β γ δ : Type) where
  a : α
  b : β
  c : γ
  d : δ
  deriving DecidableEq
structure H5 (α β γ δ ε : Type) where
  a : α
  b : β
  c : γ
  d : δ
  e : ε
  deriving DecidableEq
instance {α β : Type} [Py α] [Py β] : Hc (H2 α β) := ⟨fun p => [toPy p.a, toPy p.b]⟩
instance {α β γ : Type} [Py α] [Py β] [Py γ] : Hc (H3 α β γ) := ⟨fun p => [toPy p.a, toPy p.b, toPy p.c]⟩
instance {α β γ δ : Type} [Py α] [Py β] [Py γ] [Py δ] : Hc (H4 α β γ δ) := ⟨fun p => [toPy p.a, toPy p.b, toPy p.c, toPy p.d]⟩
instance {α β γ δ ε : Type} [Py α] [Py β] [Py γ] [Py δ] [Py ε] : Hc (H5 α β γ δ ε) := ⟨fun p => [toPy p.a, toPy p.b, toPy p.c, toPy p.d, toPy p.e]⟩
instance {α : Type} [Hc α] : Py α := ⟨fun p => .list (Hc.cs p)⟩
variable {η : Type} [Hc η]
def OH (K : PySem.W.Frag) (Ho : Hp) (v : V) (x : η) (g : Grp) : Prop := ∃ p vs, v = .ref p ∧ DqAll K Ho vs (Hc.cs x) ∧ g = [(p, .lst vs)]
theorem OH.mo {v : V} {x : η} {g : Grp} (h : OH K Ho v x g) (e : Same Ho Ho') : OH K Ho' v x g := by
  obtain ⟨p, vs, rfl, d, rfl⟩ := h
  exact ⟨p, vs, rfl, dpAll_mono e _ _ d, rfl⟩
theorem atI_dq {vs : List V} {ds : List PyData} {i : Int} {d : PyData} (h : DqAll K H vs ds) (e : atI ds i = some d) : ∃ v, atI vs i = some v ∧ Dq K H v d := by
  unfold atI at e ⊢
  rw [dpAll_len h]
  cases q : ixN ds.length i with
  | none => rw [q] at e; cases e
  | some j => rw [q] at e; exact dpAll_get h e
theorem h_ix {x : η} {y : β} {i : Int} {g : Grp} (o : OH K Ho v x g) (z : Zs (g ++ R) H Ho) (hj : atI (Hc.cs x) i = some (toPy y)) (k : ∀ w, Z.D K Ho w y → Q w H) : rIxL K v (.int i) H Q := by
  obtain ⟨p, vs, rfl, d, rfl⟩ := o
  obtain ⟨w, ew, dw⟩ := atI_dq d hj
  exact ⟨p, vs, i, w, rfl, rfl, SqL.of z.head, ew, k w dw⟩
theorem h_st {x y : η} {e : β} {i : Int} {j : Nat} {g : Grp} {QH : Hp → Prop} (z : Zs (g ++ R) H Ho) (o : OH K Ho v x g) (dx : Z.D K Ho w e) (hj : ixN (Hc.cs x).length i = some j) (hy : Hc.cs y = (Hc.cs x).set j (toPy e)) (k : ∀ g' H', Zs (g' ++ R) H' Ho → OH K Ho v y g' → QH H') : rSetL v (.int i) w H QH := by
  obtain ⟨p, vs, rfl, d, rfl⟩ := o
  refine ⟨p, vs, i, j, rfl, rfl, z.head, by rw [dpAll_len d]; exact hj, k _ _ z.put ⟨p, _, rfl, ?_, rfl⟩⟩
  rw [hy]
  exact dpAll_set d dx j
theorem OH.fr {x : η} {g : Grp} (h : OH K Ho v x g) (z : Zs (g ++ R) H Ho) : ∃ Ho', Same Ho Ho' ∧ Zs R H Ho' ∧ Z.D K Ho' v x := by
  obtain ⟨p, vs, rfl, d, rfl⟩ := h
  have z : Zs ((p, .lst vs) :: R) H Ho := z
  have e : Same Ho (upd Ho p (.lst vs)) := Same.new z.headN
  exact ⟨_, e, z.freeze, .lst (SqL.of upd_same) (dpAll_mono e _ _ d)⟩
theorem h_fr {P : Prop} {x : η} {g : Grp} (o : OH K Ho v x g) (z : Zs (g ++ R) H Ho) (k : ∀ Ho', Same Ho Ho' → Zs R H Ho' → Z.D K Ho' v x → P) : P := by
  obtain ⟨Ho', e, z', d⟩ := o.fr z
  exact k Ho' e z' d
theorem h_nm {P : Prop} {e : η} {g : Grp} {f : η → W γ} (hw : (W.bind (W.ret e) f).run Φ) (o : OH K Ho v e g) (k : ∀ x, OH K Ho v x g → (f x).run Φ → P) : P := k e o hw
theorem h_nmL {P : Prop} {e : List α} {g : Grp} {f : List α → W γ} (hw : (W.bind (W.ret e) f).run Φ) (o : OL K Ho v e g) (k : ∀ x, OL K Ho v x g → (f x).run Φ → P) : P := k e o hw
theorem h_o {G : V → Prop} {e : η} {g : Grp} {f : η → W γ} (hw : (W.bind (W.ret e) f).run Φ) (z : Zs (g ++ R) H Ho) (o : OH K Ho v e g) (k : ∀ x v g, Zs (g ++ R) H Ho → OH K Ho v x g → (f x).run Φ → G v) : LetV G v := k e v g z o hw
/-- the display [a, b, ..] of unlike things -/
theorem h_lst {vs : List V} {x : η} (z : Zs R H Ho) (hx : DqAll K Ho vs (Hc.cs x)) (hl : vs.length ≤ sizeLine) (k : ∀ H' p g, Zs (g ++ R) H' Ho → OH K Ho (.ref p) x g → Q (.ref p) H') : vs.length ≤ sizeLine ∧ ∀ p, H p = none → Q (.ref p) (upd H p (.lst vs)) :=
  ⟨hl, fun p hp => k _ p _ (z.root hp) ⟨p, _, rfl, hx, rfl⟩⟩
end
end
section
variable {K : PySem.W.Frag} {H Ho H' Ho' : Hp} {α β γ : Type} [Py α] [Py β] {Φ : γ → Prop} {R rs : Grp} {v w : V} {Q : VK} {σ : L2.St}
theorem y_get {P : Prop} {x : Option β} {f : β → W γ} (d : Z.D K Ho v x) (hw : (W.bind (W.opt x) f).run Φ) (k : ∀ t, Z.D K Ho v t → (f t).run Φ → P) : P := by
  obtain ⟨t, rfl, hw⟩ := hw
  exact k t d hw
theorem y_lstRg {te : L2.St → Hp → (Int → Int → Hp → Prop) → Prop} (k : te σ H fun a b H1 => RgOk a b ∧ ∀ q, H1 q = none → Q (.ref q) (upd H1 q (.lst (rgV a b)))) : tLstRg te σ H Q := k
theorem y_rg1 {ta : TE} {QR : Int → Int → Hp → Prop} (k : ta σ H fun x H1 => ∃ n, x = .int n ∧ QR 0 n H1) : tRg1 ta σ H QR := k
theorem y_rg2 {ta tb : TE} {QR : Int → Int → Hp → Prop} (k : ta σ H fun x H1 => tb σ H1 fun y H2 => ∃ i j, x = .int i ∧ y = .int j ∧ QR i j H2) : tRg2 ta tb σ H QR := k
theorem y_rg1v {QR : Int → Int → Hp → Prop} {n : Int} (k : QR 0 n H) : ∃ m, V.int n = .int m ∧ QR 0 m H := ⟨n, rfl, k⟩
theorem y_rg2v {QR : Int → Int → Hp → Prop} {i j : Int} (k : QR i j H) : ∃ i' j', V.int i = .int i' ∧ V.int j = .int j' ∧ QR i' j' H := ⟨i, j, rfl, rfl, k⟩
theorem rgV_rng {a b : Int} : rgV a b = (rng a b).map V.int := by
  unfold rgV rng
  rw [List.map_map]
  rfl
theorem y_listR {a b : Int} (z : Zs rs H Ho) (hg : RgOk a b) (k : ∀ H' p ws, Zs ((p, .lst ws) :: rs) H' Ho → DL K Ho ws (rng a b) → Q (.ref p) H') : RgOk a b ∧ ∀ q, H q = none → Q (.ref q) (upd H q (.lst (rgV a b))) :=
  ⟨hg, fun q hq => by rw [rgV_rng]; exact k _ q _ (z.root hq) ints_dl⟩
theorem dpAll_lenT {x : α} {ds : List PyData} (hx : toPy x = .tuple ds) (d : Z.D K Ho v x) (z : Zs rs H Ho) (k : Q (.int (ds.length : Int)) H) : rLenZ K [v] H Q := by
  have d : Dq K Ho v (toPy x) := d
  rw [hx] at d
  cases d with
  | tup hs ha =>
    refine ⟨_, _, rfl, .inr (SqT.of (z.le _ _ hs)), ?_⟩
    rw [dpAll_len ha]; exact k
end
/-! ### what is asked of a value, not taken apart too early -/
section
variable {K : PySem.W.Frag} {H Ho H' Ho' : Hp} {α β γ : Type} [Py α] [Py β] {Φ : γ → Prop} {rs r0 : Grp} {v w u : V} {vs : List V} {Q : VK} {σ : L2.St} {ts : TA} {te : TE} {R : It → Hp → Prop}
def LstK (Q : VK) (vs : List V) (H : Hp) : Prop := vs.length ≤ sizeLine ∧ ∀ p, H p = none → Q (.ref p) (upd H p (.lst vs))
def TupK (Q : VK) (vs : List V) (H : Hp) : Prop := vs.length ≤ sizeLine ∧ ∀ p, H p = none → Q (.ref p) (upd H p (.tup vs))
def RgK (Q : VK) (a b : Int) (H : Hp) : Prop := RgOk a b ∧ ∀ q, H q = none → Q (.ref q) (upd H q (.lst (rgV a b)))
theorem k_lst (k : ts σ H fun xs H1 => LstK Q xs H1) : tLst ts σ H Q := k
theorem k_tup (k : ts σ H fun xs H1 => TupK Q xs H1) : tTup ts σ H Q := k
theorem k_lstk {xs : List α} (z : Zs rs H Ho) (d : DL K Ho vs xs) (hl : vs.length ≤ sizeLine) (k : ∀ H' p ws, Zs ((p, .lst ws) :: rs) H' Ho → DL K Ho ws xs → Q (.ref p) H') : LstK Q vs H := y_lstk z d hl k
theorem k_tupk {x : α} (z : Zs rs H Ho) (hl : vs.length ≤ sizeLine) (ds : List PyData) (hx : toPy x = .tuple ds) (d : DqAll K Ho vs ds) (k : ∀ p H' Ho', Same Ho Ho' → Zs rs H' Ho' → Z.D K Ho' (.ref p) x → Q (.ref p) H') : TupK Q vs H := y_tupk z hl ds hx d k
theorem k_hlst {η : Type} [Hc η] {x : η} (z : Zs rs H Ho) (hx : DqAll K Ho vs (Hc.cs x)) (hl : vs.length ≤ sizeLine) (k : ∀ H' p g, Zs (g ++ rs) H' Ho → OH K Ho (.ref p) x g → Q (.ref p) H') : LstK Q vs H := h_lst z hx hl k
theorem k_lstRg {tr : L2.St → Hp → (Int → Int → Hp → Prop) → Prop} (k : tr σ H fun a b H1 => RgK Q a b H1) : tLstRg tr σ H Q := k
theorem k_listR {a b : Int} (z : Zs rs H Ho) (hg : RgOk a b) (k : ∀ H' p ws, Zs ((p, .lst ws) :: rs) H' Ho → DL K Ho ws (rng a b) → Q (.ref p) H') : RgK Q a b H := y_listR z hg k
def SrcL (K : PySem.W.Frag) (R : It → Hp → Prop) (x : V) (H : Hp) : Prop := ∃ a, x = .ref a ∧ (∃ xs, SqL K H a xs) ∧ R (Itl K a) H
def SrcT (K : PySem.W.Frag) (R : It → Hp → Prop) (x : V) (H : Hp) : Prop := ∃ a, x = .ref a ∧ (∃ xs, SqT K H a xs) ∧ R (Itt K a) H
def Src1 (R : It → Hp → Prop) (vs : List V) (H : Hp) : Prop := ∃ j : Int, vs = [.int j] ∧ -(2 ^ 62) ≤ j ∧ j < 2 ^ 62 ∧ R (Itr 0 j.toNat) H
def Src2 (R : It → Hp → Prop) (vs : List V) (H : Hp) : Prop := ∃ i j : Int, vs = [.int i, .int j] ∧ (-(2 ^ 62) ≤ i ∧ i < 2 ^ 62 ∧ -(2 ^ 62) ≤ j ∧ j < 2 ^ 62) ∧ R (Itr i (j - i).toNat) H
def Src3 (R : It → Hp → Prop) (vs : List V) (H : Hp) : Prop := ∃ (a b c : Int) (n : Nat), vs = [.int a, .int b, .int c] ∧ RgC a b c n ∧ R (Itc a c n) H
def SrcZ (K : PySem.W.Frag) (R : It → Hp → Prop) (vs : List V) (H : Hp) : Prop := ∃ a b xs ys, vs = [.ref a, .ref b] ∧ SqL K H a xs ∧ SqL K H b ys ∧ R (Itz K a b) H
def SrcE (K : PySem.W.Frag) (R : It → Hp → Prop) (vs : List V) (H : Hp) : Prop := ∃ a xs, vs = [.ref a] ∧ SqL K H a xs ∧ R (Ite K a) H
def SrcV (K : PySem.W.Frag) (R : It → Hp → Prop) (vs : List V) (H : Hp) : Prop := ∃ a xs, vs = [.ref a] ∧ SqL K H a xs ∧ R (Itv K a xs.length) H
theorem k_iList (k : te σ H fun x H1 => SrcL K R x H1) : iList K te σ H R := k
theorem k_iTup (k : te σ H fun x H1 => SrcT K R x H1) : iTup K te σ H R := k
theorem k_iR1 (k : ts σ H fun vs H1 => Src1 R vs H1) : iRng1 ts σ H R := k
theorem k_iR2 (k : ts σ H fun vs H1 => Src2 R vs H1) : iRng2 ts σ H R := k
theorem k_iR3 (k : ts σ H fun vs H1 => Src3 R vs H1) : iRng3 ts σ H R := k
theorem k_iZip (k : ts σ H fun vs H1 => SrcZ K R vs H1) : iZip K ts σ H R := k
theorem k_iEnum (k : ts σ H fun vs H1 => SrcE K R vs H1) : iEnum K ts σ H R := k
theorem k_iRev (k : ts σ H fun vs H1 => SrcV K R vs H1) : iRev K ts σ H R := k
theorem k_srcL {xs : List α} (d : LV K r0 Ho v xs) (hs : ∀ r ∈ r0, r ∈ rs) (z : Zs rs H Ho) (k : ∀ J, Trn K r0 J xs Ho → R J H) : SrcL K R v H := y_srcL d hs z k
theorem k_srcT {x : β} {xs : List α} (d : Z.D K Ho v x) (hf : toPy x = .tuple (xs.map Py.toPy)) (z : Zs rs H Ho) (k : ∀ J, Trn K [] J xs Ho → R J H) : SrcT K R v H := y_srcT d hf z k
theorem k_srcR1 {n : Int} (hg : rngOk 0 n) (k : ∀ J, Trn K [] J (rng 0 n) Ho → R J H) : Src1 R [V.int n] H := y_srcR1 hg k
theorem k_srcR2 {a b : Int} (hg : rngOk a b) (k : ∀ J, Trn K [] J (rng a b) Ho → R J H) : Src2 R [V.int a, V.int b] H := y_srcR2 hg k
theorem k_srcR3 {a b : Int} (hg : rngOk b a) (k : ∀ J, Trn K [] J (rngD a b) Ho → R J H) : Src3 R [V.int a, V.int b, V.int (-1)] H := y_srcR3 hg k
theorem k_srcZ {xs : List α} {ys : List β} (d : LV K r0 Ho v xs) (d' : LV K r0 Ho u ys) (hs : ∀ r ∈ r0, r ∈ rs) (z : Zs rs H Ho) (k : ∀ J, Trn K r0 J (xs.zip ys) Ho → R J H) : SrcZ K R [v, u] H := y_srcZ d d' hs z k
theorem k_srcE {xs : List α} (d : LV K r0 Ho v xs) (hs : ∀ r ∈ r0, r ∈ rs) (z : Zs rs H Ho) (k : ∀ J, Trn K r0 J (enumZ xs) Ho → R J H) : SrcE K R [v] H := y_srcE d hs z k
theorem k_srcV {xs : List α} (d : LV K r0 Ho v xs) (hs : ∀ r ∈ r0, r ∈ rs) (z : Zs rs H Ho) (k : ∀ J, Trn K r0 J xs.reverse Ho → R J H) : SrcV K R [v] H := y_srcV d hs z k
theorem y_nxS {D : Ends} {u : TS} (k : u D σ H) : tNext { D with nx := u D } σ H := k
end
section
variable {K : PySem.W.Frag} {H Ho H' Ho' : Hp} {α β γ : Type} [Py α] [Py β] {Φ : γ → Prop} {rs R : Grp} {v w : V} {Q : VK} {σ : L2.St} {ta : TA} {D : Ends} {u : TS} {i j : Nat}
theorem not_isNone {x : Option β} : (!x.isNone) = x.isSome := by cases x <;> rfl
def rInsert : V → List V → Hp → VK → Prop := fun x vs H Q => ∃ (l : Addr) (xs : List V) (i : Int) (y : V), x = .ref l ∧ vs = [.int i, y] ∧ H l = some (.lst xs) ∧ xs.length < sizeLine ∧ 0 ≤ i ∧ i < 2 ^ 63 ∧ Q .non (upd H l (.lst (xs.take i.toNat ++ [y] ++ xs.drop i.toNat)))
theorem zmt_insert {X : Cx} : MtR X "list.insert" rInsert := mt_insert
theorem k_ins {xs : List α} {x : α} {i : Int} {g : Grp} {f : List α → W γ} (z : Zs (g ++ R) H Ho) (o : OL K Ho v xs g) (dx : Z.D K Ho w x) (hw : (W.bind (insL xs i x) f).run Φ) (k : ∀ xs' g' H', Zs (g' ++ R) H' Ho → OL K Ho v xs' g' → (f xs').run Φ → Q .non H') : rInsert v [.int i, w] H Q := g_ins z o dx hw k
def Par2 (G : V → V → Prop) (vs : List V) : Prop := ∃ v w, vs = [v, w] ∧ G v w
theorem l_par (σ' : V → V → L2.St) (hσ : ∀ v w, (σ.set i (some v)).set j (some w) = σ' v w) (k : ta σ H fun vs H1 => Par2 (fun v w => u D (σ' v w) H1) vs) : tSeq (tPar i j ta) u D σ H := by
  have e : (fun vs H1 => Par2 (fun v w => u D (σ' v w) H1) vs) = fun vs H1 => ∃ v w, vs = [v, w] ∧ u D ((σ.set i (some v)).set j (some w)) H1 := by
    funext vs H1
    unfold Par2
    simp only [hσ]
  rw [e] at k
  exact k
theorem l_par2 {G : V → V → Prop} (k : LetV (fun v => LetV (fun w => G v w) w) v) : Par2 G [v, w] := ⟨v, w, rfl, k⟩
end
section
variable {K : PySem.W.Frag} {H Ho : Hp} {rs : Grp} {vs : List V} {Q : VK} {σ : L2.St} {ts : TA}
theorem k_tcs {QV : VK} (z : Zs rs H Ho) (ht : TCs ts vs) (hl : vs.length ≤ sizeLine) (k : ∀ p H' Ho', Same Ho Ho' → Zs rs H' Ho' → H' p = some (.tup vs) → QV (.ref p) H') : tTup ts σ H QV :=
  ht.run ⟨hl, fun p hp => k p _ _ (Same.new (z.free hp)) (z.alloc hp) upd_same⟩
theorem k_isXT {cl : Nat → Addr} {n : Nat} {a p : Addr} {us : List Value} {b : Bool} (hp : H p = some (.tup vs)) (xc : ExcC K (cl n)) (k : Paired ClsV vs us) (e : PySem.W.kitAny K (.ref (cl n)) us = some b) (q : Q (.bl b) H) : rIsXT K a (.ref (cl n)) none [.ref a, .ref p] H Q :=
  ⟨_, p, vs, us, b, rfl, rfl, rfl, hp, k, xc, e, q⟩
end
end Z

/-! # dicts with int keys and with keys of two ints -/
namespace Z
open PySem L2
theorem room1 {k : Nat} {A : Around} (r : Room k A) : A.units + 1 < cLine := by have := r.un; omega
abbrev Dc (κ α : Type) := List (κ × α)
section
variable {κ α : Type} [DecidableEq κ]
def valM (m : Dc κ α) (k : κ) : Option α := (m.find? fun p => decide (p.1 = k)).map (·.2)
def putM (m : Dc κ α) (k : κ) (a : α) : Dc κ α := if (m.any fun p => decide (p.1 = k)) = true then m.map (fun p => if p.1 = k then (p.1, a) else p) else m ++ [(k, a)]
def putG (m : Dc κ α) (k : κ) (a : α) : W (Dc κ α) := W.guard (m.length < sizeLine) (W.ret (putM m k a))
end
class DKey (κ : Type) [Py κ] where
  kt : Type
  dec : DecidableEq kt
  key : κ → kt
  inj : ∀ {a b : κ}, key a = key b → a = b
  ho : List (kt × V) → HO
  nt : ∀ kvs, NotTup (ho kvs) := by intro kvs; exact trivial
  get : ∀ {K : PySem.W.Frag} {H Ho : Hp} {v : V} {k : κ} {p : Addr} {kvs : List (kt × V)}, H p = some (ho kvs) → Same Ho H → Z.D K Ho v k → DGet H p v (@valV kt dec kvs (key k))
  put : ∀ {K : PySem.W.Frag} {H Ho : Hp} {v y : V} {k : κ} {p : Addr} {kvs : List (kt × V)}, H p = some (ho kvs) → Same Ho H → Z.D K Ho v k → kvs.length < sizeLine → DPut H p v y (upd H p (ho (@putK kt dec kvs (key k) y)))
  isd : ∀ {H : Hp} {p : Addr} {kvs : List (kt × V)}, H p = some (ho kvs) → IsD H p
instance : DKey Int where
  kt := L2.Key
  dec := inferInstance
  key i := .inl i
  inj h := by cases h; rfl
  ho := .dK
  get e _ d := by rw [d_int d]; exact DGet.k (k := .inl _) e
  put e _ d h := by rw [d_int d]; exact DPut.k (k := .inl _) e h
  isd e := .inl ⟨_, .inl e⟩
instance : DKey (Int × Int) where
  kt := List L2.Key
  dec := inferInstance
  key p := [.inl p.1, .inl p.2]
  inj h := by
    rename_i a b
    obtain ⟨a1, a2⟩ := a
    obtain ⟨b1, b2⟩ := b
    simp only [List.cons.injEq, Sum.inl.injEq, and_true] at h
    rw [h.1, h.2]
  ho := .dT
  get e s d := by
    cases d with
    | tup hs ha =>
      cases ha with
      | cons h1 h2 =>
        cases h2 with
        | cons h3 h4 =>
          cases h4
          rw [d_int h1, d_int h3] at hs
          exact DGet.t e (s _ _ hs)
  put e s d h := by
    cases d with
    | tup hs ha =>
      cases ha with
      | cons h1 h2 =>
        cases h2 with
        | cons h3 h4 =>
          cases h4
          rw [d_int h1, d_int h3] at hs
          exact DPut.t e (s _ _ hs) h
  isd e := .inr ⟨_, .inl e⟩
section
variable {K : PySem.W.Frag} {H Ho H' Ho' : Hp} {κ α γ : Type} [Py κ] [DecidableEq κ] [DKey κ] [Py α] {Φ : γ → Prop} {R : Grp} {v w u : V} {Q : VK} {σ : L2.St}

def DM (K : PySem.W.Frag) (Ho : Hp) (kvs : List (DKey.kt κ × V)) (m : Dc κ α) : Prop := kvs.map (·.1) = m.map (fun p => DKey.key p.1) ∧ DL K Ho (kvs.map (·.2)) (m.map (·.2))
theorem DM.len {kvs : List (DKey.kt κ × V)} {m : Dc κ α} (h : DM K Ho kvs m) : kvs.length = m.length := by
  have := congrArg List.length h.1
  simpa using this
theorem DM.val : ∀ {kvs : List (DKey.kt κ × V)} {m : Dc κ α}, DM K Ho kvs m → ∀ k : κ, (valM m k = none → @valV _ DKey.dec kvs (DKey.key k) = none) ∧ ∀ a, valM m k = some a → ∃ x, @valV _ DKey.dec kvs (DKey.key k) = some x ∧ Z.D K Ho x a
  | [], [], _, k => ⟨fun _ => rfl, fun a e => by cases e⟩
  | [], _ :: _, h, _ => by cases h.1
  | _ :: _, [], h, _ => by cases h.1
  | (k1, x) :: kvs, (k2, a) :: m, h, k => by
    obtain ⟨h1, h2⟩ := h
    simp only [List.map_cons, List.cons.injEq] at h1
    cases h2 with
    | cons d ds =>
      have ih := DM.val (kvs := kvs) (m := m) ⟨h1.2, ds⟩ k
      by_cases c : k2 = k
      · have e1 : valM ((k2, a) :: m) k = some a := by simp [valM, List.find?_cons, c]
        have e2 : @valV _ DKey.dec ((k1, x) :: kvs) (DKey.key k) = some x := @valV_pos _ DKey.dec (k1, x) kvs (DKey.key k) (by rw [← c]; exact h1.1)
        rw [e1, e2]
        exact ⟨fun z => (nomatch z), fun b e => ⟨x, rfl, by cases e; exact d⟩⟩
      · have e1 : valM ((k2, a) :: m) k = valM m k := by simp [valM, List.find?_cons, c]
        have e2 : @valV _ DKey.dec ((k1, x) :: kvs) (DKey.key k) = @valV _ DKey.dec kvs (DKey.key k) := @valV_neg _ DKey.dec (k1, x) kvs (DKey.key k) (fun z => c (DKey.inj (h1.1.symm.trans z)))
        rw [e1, e2]
        exact ih
theorem valM_any (k : κ) : ∀ m : Dc κ α, (m.any fun p => decide (p.1 = k)) = (valM m k).isSome
  | [] => rfl
  | p :: r => by
    rw [List.any_cons]
    by_cases e : p.1 = k
    · have : valM (p :: r) k = some p.2 := by simp [valM, List.find?_cons, e]
      rw [this, decide_eq_true e]; rfl
    · have : valM (p :: r) k = valM r k := by simp [valM, List.find?_cons, e]
      rw [this, decide_eq_false e, Bool.false_or, valM_any k r]
theorem DM.some {kvs : List (DKey.kt κ × V)} {m : Dc κ α} (h : DM K Ho kvs m) (k : κ) : (@valV _ DKey.dec kvs (DKey.key k)).isSome = (valM m k).isSome := by
  obtain ⟨h1, h2⟩ := h.val k
  cases e : valM m k with
  | none => rw [h1 e]; rfl
  | some a => obtain ⟨x, ex, _⟩ := h2 a e; rw [ex]; rfl
theorem DM.mapped {x : V} {a : α} (k : κ) (d : Z.D K Ho x a) : ∀ {kvs : List (DKey.kt κ × V)} {m : Dc κ α}, DM K Ho kvs m →
    DM K Ho (kvs.map fun kv => @ite _ (kv.1 = DKey.key k) (DKey.dec kv.1 (DKey.key k)) (kv.1, x) kv) (m.map fun p => if p.1 = k then (p.1, a) else p)
  | [], [], _ => ⟨rfl, .nil⟩
  | [], _ :: _, h => by cases h.1
  | _ :: _, [], h => by cases h.1
  | (k1, y) :: kvs, (k2, b) :: m, h => by
    obtain ⟨h1, h2⟩ := h
    simp only [List.map_cons, List.cons.injEq] at h1
    cases h2 with
    | cons e es =>
      obtain ⟨i1, i2⟩ := DM.mapped k d (kvs := kvs) (m := m) ⟨h1.2, es⟩
      by_cases c : k2 = k
      · have c' : k1 = DKey.key k := by rw [← c]; exact h1.1
        refine ⟨?_, ?_⟩
        · rw [List.map_cons, List.map_cons, List.map_cons, List.map_cons, i1, if_pos c, if_pos c']
          show k1 :: _ = DKey.key k2 :: _
          rw [h1.1]
        · rw [List.map_cons, List.map_cons, List.map_cons, List.map_cons, if_pos c, if_pos c']
          exact .cons d i2
      · have c' : ¬ k1 = DKey.key k := fun z => c (DKey.inj (h1.1.symm.trans z))
        refine ⟨?_, ?_⟩
        · rw [List.map_cons, List.map_cons, List.map_cons, List.map_cons, i1, if_neg c, if_neg c']
          show k1 :: _ = DKey.key k2 :: _
          rw [h1.1]
        · rw [List.map_cons, List.map_cons, List.map_cons, List.map_cons, if_neg c, if_neg c']
          exact .cons e i2
theorem DM.put {x : V} {a : α} {k : κ} {kvs : List (DKey.kt κ × V)} {m : Dc κ α} (h : DM K Ho kvs m) (d : Z.D K Ho x a) : DM K Ho (@putK _ DKey.dec kvs (DKey.key k) x) (putM m k a) := by
  unfold putK putM
  rw [@valV_any _ DKey.dec, valM_any, h.some k]
  split
  · exact DM.mapped k d h
  · refine ⟨?_, ?_⟩
    · rw [List.map_append, List.map_append, h.1]; rfl
    · rw [List.map_append, List.map_append]
      exact DL.push h.2 d
theorem DM.mo {kvs : List (DKey.kt κ × V)} {m : Dc κ α} (h : DM K Ho kvs m) (e : Same Ho Ho') : DM K Ho' kvs m := ⟨h.1, DL.mo h.2 e⟩
/-- a dict of its own -/
def OD (K : PySem.W.Frag) (Ho : Hp) (v : V) (m : Dc κ α) (g : Grp) : Prop := ∃ p kvs, v = .ref p ∧ DM K Ho kvs m ∧ g = [(p, DKey.ho (κ := κ) kvs)]
theorem OD.mo {m : Dc κ α} {g : Grp} (h : OD K Ho v m g) (e : Same Ho Ho') : OD K Ho' v m g := by
  obtain ⟨p, kvs, rfl, d, rfl⟩ := h
  exact ⟨p, kvs, rfl, d.mo e, rfl⟩
/-- a dict that is read -/
def BD (K : PySem.W.Frag) (R : Grp) (Ho : Hp) (v : V) (m : Dc κ α) : Prop := ∃ g, OD K Ho v m g ∧ ∀ r ∈ g, r ∈ R
theorem BD.mo {m : Dc κ α} (h : BD K R Ho v m) (e : Same Ho Ho') : BD K R Ho' v m := by
  obtain ⟨g, o, s⟩ := h
  exact ⟨g, o.mo e, s⟩
theorem BD.sub {m : Dc κ α} {R' : Grp} (h : BD K R Ho v m) (e : ∀ r ∈ R, r ∈ R') : BD K R' Ho v m := by
  obtain ⟨g, o, s⟩ := h
  exact ⟨g, o, fun r m => e r (s r m)⟩
theorem BD.rd {m : Dc κ α} (h : BD K R Ho v m) (z : Zs R H Ho) : ∃ p kvs, v = .ref p ∧ DM K Ho kvs m ∧ H p = some (DKey.ho (κ := κ) kvs) := by
  obtain ⟨g, ⟨p, kvs, rfl, d, rfl⟩, s⟩ := h
  exact ⟨p, kvs, rfl, d, (z.rt _ (s _ (List.mem_singleton.mpr rfl))).1⟩
theorem d_o {G : V → Prop} {e : Dc κ α} {g : Grp} {f : Dc κ α → W γ} (hw : (W.bind (W.ret e) f).run Φ) (z : Zs (g ++ R) H Ho) (o : OD K Ho v e g) (k : ∀ x v g, Zs (g ++ R) H Ho → OD K Ho v x g → (f x).run Φ → G v) : LetV G v := k e v g z o hw
theorem g_dnewK (z : Zs R H Ho) (k : ∀ H' v g, Zs (g ++ R) H' Ho → OD K Ho v ([] : Dc Int α) g → Q v H') : tDNewK σ H Q := fun p hp => k _ _ _ (z.root hp) ⟨p, [], rfl, ⟨rfl, .nil⟩, rfl⟩
theorem g_dnewT (z : Zs R H Ho) (k : ∀ H' v g, Zs (g ++ R) H' Ho → OD K Ho v ([] : Dc (Int × Int) α) g → Q v H') : tDNewT σ H Q := fun p hp => k _ _ _ (z.root hp) ⟨p, [], rfl, ⟨rfl, .nil⟩, rfl⟩
/-! reading -/
theorem zsl_tup {X : Cx} (hK : X.K = K) : SlR X (rSlT K) := hK ▸ sl_tup
theorem dpAll_cut {vs : List V} {ds : List PyData} (h : DqAll K H vs ds) (lo hi : Option Int) : DqAll K H (cutV vs lo hi) (Z.cut ds lo hi) := by
  unfold cutV Z.cut
  rw [dpAll_len h]
  exact dpAll_take (dpAll_drop h _) _
theorem y_slT {β δ : Type} [Py β] [Py δ] {x : β} {y : δ} {lo hi : Option Int} (d : Z.D K Ho v x) (z : Zs R H Ho) (hj : ∃ ds, toPy x = .tuple ds ∧ ¬ (HT.sIx ds.length 0 lo = 0 ∧ HT.sIx ds.length ds.length hi = ds.length) ∧ toPy y = .tuple (Z.cut ds lo hi))
    (k : ∀ p H' Ho', Same Ho Ho' → Zs R H' Ho' → Z.D K Ho' (.ref p) y → Q (.ref p) H') : rSlT K v lo hi H Q := by
  obtain ⟨ds, e1, e2, e3⟩ := hj
  have d : Dq K Ho v (toPy x) := d
  rw [e1] at d
  cases d with
  | tup hs ha =>
    refine ⟨_, _, rfl, SqT.of (z.le _ _ hs), by rw [dpAll_len ha]; exact e2, fun q hq => ?_⟩
    have nf := z.free hq
    refine k q _ _ (Same.new nf) (z.alloc hq) ?_
    show Dq K _ _ (toPy y)
    rw [e3]
    exact .tup upd_same (dpAll_mono (Same.new nf) _ _ (dpAll_cut ha lo hi))
/-! tuples of one kind, of any length -/
theorem zsl_tupA {X : Cx} (hK : X.K = K) : SlR X (rSlA K) := hK ▸ sl_tupA
theorem zop_catA {X : Cx} (hK : X.K = K) : OpR X (binaryOp .Add) (rCatA K) := hK ▸ op_catA
theorem y_slTp {β : Type} [Py β] {x : Tp β} {lo hi : Option Int} (d : Z.D K Ho v x) (z : Zs R H Ho) (k : ∀ w H' Ho', Same Ho Ho' → Zs R H' Ho' → Z.D K Ho' w (⟨Z.cut x.l lo hi⟩ : Tp β) → Q w H') : rSlA K v lo hi H Q := by
  have d0 := d
  cases d with
  | tup hs ha =>
    have hl : _ = x.l.length := (dpAll_len ha).trans (by simp)
    refine ⟨_, _, rfl, SqT.of (z.le _ _ hs), fun hw => ?_, fun hn q hq => ?_⟩
    · refine k _ _ _ (Same.refl _) z ?_
      have e : Z.cut x.l lo hi = x.l := by
        unfold Z.cut
        rw [← hl, hw.1, hw.2]
        simp [hl]
      show Z.D K Ho _ (⟨Z.cut x.l lo hi⟩ : Tp β)
      rw [e]
      exact d0
    · have nf := z.free hq
      refine k (.ref q) _ _ (Same.new nf) (z.alloc hq) ?_
      exact .tup upd_same (dpAll_mono (Same.new nf) _ _ (DL.cut (xs := x.l) ha lo hi))
theorem y_catTp {β : Type} [Py β] {x y : Tp β} (d1 : Z.D K Ho v x) (d2 : Z.D K Ho w y) (z : Zs R H Ho) (hg : x.l.length + y.l.length ≤ sizeLine) (k : ∀ u H' Ho', Same Ho Ho' → Zs R H' Ho' → Z.D K Ho' u (⟨x.l ++ y.l⟩ : Tp β) → Q u H') : rCatA K v w H Q := by
  have d1' := d1
  have d2' := d2
  obtain ⟨xs⟩ := x
  obtain ⟨ys⟩ := y
  cases d1 with
  | tup hs ha =>
    cases d2 with
    | tup hs2 ha2 =>
      have hl := dpAll_len ha
      have hl2 := dpAll_len ha2
      rw [List.length_map] at hl hl2
      refine ⟨_, _, _, _, rfl, rfl, SqT.of (z.le _ _ hs), SqT.of (z.le _ _ hs2), by rw [hl, hl2]; exact hg, fun e => ?_, fun _ e => ?_, fun _ _ q hq => ?_⟩
      · refine k _ _ _ (Same.refl _) z ?_
        have : xs = [] := List.length_eq_zero_iff.mp (by rw [← hl, e]; rfl)
        subst this
        exact d2'
      · refine k _ _ _ (Same.refl _) z ?_
        have : ys = [] := List.length_eq_zero_iff.mp (by rw [← hl2, e]; rfl)
        subst this
        show Z.D K Ho _ (⟨xs ++ []⟩ : Tp β)
        rw [List.append_nil]
        exact d1'
      · have nf := z.free hq
        refine k (.ref q) _ _ (Same.new nf) (z.alloc hq) ?_
        exact .tup upd_same (dpAll_mono (Same.new nf) _ _ (DL.append (xs := xs) (ys := ys) ha ha2))
def tp4 {β : Type} : Tp β → Option (P4 β β β β)
  | ⟨[a, b, c, d]⟩ => some ⟨a, b, c, d⟩
  | _ => none
theorem y_tp4 {β : Type} [Py β] {x : Tp β} {f : P4 β β β β → W γ} {P : Prop} (d : Z.D K Ho v x) (hw : (W.bind (W.opt (tp4 x)) f).run Φ) (k : ∀ t, Z.D K Ho v t → (f t).run Φ → P) : P := by
  obtain ⟨t, et, hw⟩ := hw
  refine k t ?_ hw
  obtain ⟨l⟩ := x
  match l, et with
  | [a, b, c, e], rfl => exact d
theorem zmt_indexD {X : Cx} (hK : X.K = K) (hu : X.A.units + 65 < cLine) : MtR X "list.index" (rIndexD K) := hK ▸ mt_indexD hu
/-- the first place of an equal one -/
def idxD {β : Type} [Py β] (x : β) (ys : List β) : Option Int := Option.map (fun n : Nat => (n : Int)) (ys.findIdx? fun y => eqD y x)
theorem d_ref {β : Type} [Py β] {ys : List β} : ∀ {v : V}, Z.D K H v ys → ∃ a, v = .ref a := fun {v} h => by
  obtain ⟨p, vs, e, _⟩ := LV.of (rs := []) h
  exact ⟨p, e⟩
theorem y_index {β : Type} [Py β] {x : β} {ys : List β} {f : Int → W γ} (d1 : Z.D K H w x) (d2 : Z.D K H v ys) (hg : okD x ∧ okD ys) (hw : (W.bind (W.opt (idxD x ys)) f).run Φ) (k : ∀ t, (f t).run Φ → Q (.int t) H) : rIndexD K v [w] H Q := by
  obtain ⟨t, et, hw⟩ := hw
  unfold idxD at et
  rw [Option.map_eq_some_iff] at et
  obtain ⟨n, en, rfl⟩ := et
  obtain ⟨hn, h1, h2⟩ := List.findIdx?_eq_some_iff_getElem.mp en
  obtain ⟨a, rfl⟩ := d_ref d2
  refine ⟨a, w, toPy x, ys.map Py.toPy, n, toPy ys[n], rfl, rfl, Dq.dp _ _ (shp hg.2) d2, Dq.dp _ _ (shp hg.1) d1, hg.2, hg.1, by rw [List.getElem?_map, List.getElem?_eq_getElem hn]; rfl, h1, fun m z' hm e => ?_, k n hw⟩
  rw [List.getElem?_map, List.getElem?_eq_getElem (by omega)] at e
  cases e
  simpa [eqD] using h2 m hm
def GGet (Q : VK) (x y : V) (H : Hp) : Prop := ∃ a v, x = .ref a ∧ DGet H a y (some v) ∧ Q v H
def GIn (Q : VK) (x y : V) (H : Hp) : Prop := ∃ a o, x = .ref a ∧ DGet H a y o ∧ Q (.bl o.isSome) H
def GNotIn (Q : VK) (x y : V) (H : Hp) : Prop := ∃ a o, x = .ref a ∧ DGet H a y o ∧ Q (.bl (!o.isSome)) H
def GGet1 (Q : VK) (a : Addr) (y : V) (H : Hp) : Prop := ∃ o, DGet H a y o ∧ Q (o.getD .non) H
def GGet2 (Q : VK) (a : Addr) (y z : V) (H : Hp) : Prop := ∃ o, DGet H a y o ∧ Q (o.getD z) H
def GPut (N : Hp → Prop) (x y v : V) (H : Hp) : Prop := ∃ a H4, x = .ref a ∧ DPut H a y v H4 ∧ N H4
section
variable {td ty tx tv : TE} {un : TS} {D : Ends}
theorem y_dget (k : td σ H fun x H1 => ty σ H1 fun y H2 => GGet Q x y H2) : tDGet td ty σ H Q := k
theorem y_din (k : ty σ H fun y H1 => td σ H1 fun x H2 => GIn Q x y H2) : tDIn ty td σ H Q := k
theorem y_dnotin (k : ty σ H fun y H1 => td σ H1 fun x H2 => GNotIn Q x y H2) : tDNotIn ty td σ H Q := k
theorem y_dget1 (k : td σ H fun x H1 => ∃ a, x = .ref a ∧ IsD H1 a ∧ ty σ H1 fun y H2 => GGet1 Q a y H2) : tDGet1 td ty σ H Q := k
theorem y_dget2 (k : td σ H fun x H1 => ∃ a, x = .ref a ∧ IsD H1 a ∧ ty σ H1 fun y H2 => tx σ H2 fun z H3 => GGet2 Q a y z H3) : tDGet2 td ty tx σ H Q := k
theorem y_dput (k : tv σ H fun v H1 => td σ H1 fun x H2 => ty σ H2 fun y H3 => GPut (fun H4 => un D σ H4) x y v H3) : tSeq (sDPut td ty tv) un D σ H := k
end
theorem g_dget {m : Dc κ α} {k : κ} {f : α → W γ} (b : BD K R Ho v m) (z : Zs R H Ho) (dk : Z.D K Ho w k) (hw : (W.bind (W.opt (valM m k)) f).run Φ) (kk : ∀ t u, Z.D K Ho u t → (f t).run Φ → Q u H) : GGet Q v w H := by
  obtain ⟨p, kvs, rfl, d, e⟩ := b.rd z
  obtain ⟨a, ea, hw⟩ := hw
  obtain ⟨x, ex, dx⟩ := (d.val k).2 a ea
  exact ⟨p, x, rfl, ex ▸ DKey.get e z.le dk, kk a x dx hw⟩
theorem g_din {m : Dc κ α} {k : κ} (b : BD K R Ho v m) (z : Zs R H Ho) (dk : Z.D K Ho w k) (kk : Q (.bl (valM m k).isSome) H) : GIn Q v w H := by
  obtain ⟨p, kvs, rfl, d, e⟩ := b.rd z
  exact ⟨p, _, rfl, DKey.get e z.le dk, by rw [d.some k]; exact kk⟩
theorem g_dnotin {m : Dc κ α} {k : κ} (b : BD K R Ho v m) (z : Zs R H Ho) (dk : Z.D K Ho w k) (kk : Q (.bl (!(valM m k).isSome)) H) : GNotIn Q v w H := by
  obtain ⟨p, kvs, rfl, d, e⟩ := b.rd z
  exact ⟨p, _, rfl, DKey.get e z.le dk, by rw [d.some k]; exact kk⟩
theorem g_isd {m : Dc κ α} {P : Addr → Prop} (b : BD K R Ho v m) (z : Zs R H Ho) (kk : ∀ a, v = .ref a → P a) : ∃ a, v = .ref a ∧ IsD H a ∧ P a := by
  obtain ⟨p, kvs, rfl, d, e⟩ := b.rd z
  exact ⟨p, rfl, DKey.isd e, kk p rfl⟩
theorem g_dget1 {m : Dc κ α} {k : κ} {a : Addr} (ea : v = .ref a) (b : BD K R Ho v m) (z : Zs R H Ho) (dk : Z.D K Ho w k) (kk : ∀ u, Z.D K Ho u (valM m k) → Q u H) : GGet1 Q a w H := by
  obtain ⟨p, kvs, e1, d, e⟩ := b.rd z
  rw [ea] at e1
  cases e1
  refine ⟨_, DKey.get e z.le dk, kk _ ?_⟩
  obtain ⟨h1, h2⟩ := d.val k
  cases q : valM m k with
  | none => rw [h1 q]; exact .non
  | some x => obtain ⟨y, ey, dy⟩ := h2 x q; rw [ey]; exact dy
theorem g_dget2 {m : Dc κ α} {k : κ} {a : Addr} {x : α} (ea : v = .ref a) (b : BD K R Ho v m) (z : Zs R H Ho) (dk : Z.D K Ho w k) (dx : Z.D K Ho u x) (kk : ∀ y, Z.D K Ho y ((valM m k).getD x) → Q y H) : GGet2 Q a w u H := by
  obtain ⟨p, kvs, e1, d, e⟩ := b.rd z
  rw [ea] at e1
  cases e1
  refine ⟨_, DKey.get e z.le dk, kk _ ?_⟩
  obtain ⟨h1, h2⟩ := d.val k
  cases q : valM m k with
  | none => rw [h1 q]; exact dx
  | some x => obtain ⟨y, ey, dy⟩ := h2 x q; rw [ey]; exact dy
theorem g_dput {m : Dc κ α} {k : κ} {x : α} {g : Grp} {N : Hp → Prop} {f : Dc κ α → W γ} (z : Zs (g ++ R) H Ho) (o : OD K Ho v m g) (dk : Z.D K Ho w k) (dx : Z.D K Ho u x) (hw : (W.bind (putG m k x) f).run Φ) (kk : ∀ m' g' H', Zs (g' ++ R) H' Ho → OD K Ho v m' g' → (f m').run Φ → N H') : GPut N v w u H := by
  obtain ⟨p, kvs, rfl, d, rfl⟩ := o
  obtain ⟨hl, hw⟩ := hw
  exact ⟨p, _, rfl, DKey.put z.head z.le dk (by rw [d.len]; exact hl), kk _ _ _ (z.put (hn := DKey.nt _)) ⟨p, _, rfl, d.put dx, rfl⟩ hw⟩
end
end Z

/-! # d.setdefault(k, v), k a tuple -/
namespace Z
open PySem PySem.Spec PyProof.Rows L2
section
variable {X : Cx} {pins : List (Addr × Obj)} {σ : L2.St} {H : Hp} {s : Shared} {a b : Addr} {kvs : List (List L2.Key × V)} {k : List L2.Key} {z : V} {r : Value} {A : Around} {E : Value → Shared → Prop}
theorem d_setdT {Q : Value → Shared → Prop} (hu : A.units + 1 < cLine) (I : Inv X pins σ H s) (e : H a = some (.dT kvs)) (eb : H b = some (.tup (k.map kV))) (l : kvs.length < sizeLine) (rz : RelV z r)
    (h1 : ∀ u w' s', valV kvs k = some u → RelV u w' → Inv X pins σ H s' → Q w' s') (h2 : valV kvs k = none → ∀ s', Inv X pins σ (upd H a (.dT (putK kvs k z))) s' → Q r s') :
    wpAny (model X.prog X.w) A (call (.builtin "dict.setdefault") [.ref a, .ref b, r]) Q E s := by
  obtain ⟨zz, hd, xs, rel, dd⟩ := dt_of I.hok e
  have hz : xs.length ≤ sizeLine := by rw [← Paired.length rel]; exact zz
  have hl : (putK kvs k z).length ≤ sizeLine := by have := length_putK kvs k z; omega
  have rv := rel.val k
  refine call_setdefault_heap (hsz := hz) (tupleKind_room_in1 hu) (key_of I.hok eb) hd dd (fun p hp => ?_) (fun hn h' dd' hs => ?_)
  · rw [hp] at rv
    cases hv : valV kvs k with
    | none => rw [hv] at rv; cases rv
    | some u =>
      rw [hv] at rv
      obtain ⟨w', hw, rw'⟩ := RelO.some_of (v := u) (o := some p.2) rv
      cases hw
      exact h1 u _ _ hv rw' (I.tok _)
  · rw [hn] at rv
    cases hv : valV kvs k with
    | some u =>
      rw [hv] at rv
      obtain ⟨w', hw, _⟩ := RelO.some_of (v := u) (o := none) rv
      cases hw
    | none =>
      refine h2 hv _ ?_
      obtain ⟨q, es, ep, hq, g2, g3, g4, _, g5⟩ := dd'
      refine d_write I (by rw [e]; exact True.intro) hs ⟨q, hq⟩ ⟨hl, hd, _, (rel.put k eb rz).keeps fun c ys ec => ?_, q, es, ep, hq, g2, g3, g4, g5⟩
      rw [upd_ne (ne_of ec e (fun z => nomatch z))]
      exact ec
def tDSetd (td ty tx : TE) : TE := fun σ H Q => td σ H fun x H1 => ∃ a, x = .ref a ∧ IsD H1 a ∧ ty σ H1 fun y H2 => tx σ H2 fun z H3 => ∃ kvs k b, H3 a = some (.dT kvs) ∧ y = .ref b ∧ H3 b = some (.tup (k.map kV)) ∧ kvs.length < sizeLine ∧
  (∀ u, valV kvs k = some u → Q u H3) ∧ (valV kvs k = none → Q z (upd H3 a (.dT (putK kvs k z))))
theorem pe_dsetd {o e f : Expr} {apos cpos : Pos} {td ty tx : TE} (hu : X.A.units + 1 < cLine) (ho : PE X o td) (he : PE X e ty) (hf : PE X f tx) (m : M2 X o "setdefault" apos e f cpos) : PE X (.Call (.Attribute o "setdefault" apos) [e, f] [] cpos) (tDSetd td ty tx) := by
  refine ⟨fun pins s σ H Q I h => ?_⟩
  refine wpAny_Call_method m.base m.few m.line PySem.F.plainAttrs_dict PySem.F.slot_dict_setdefault PySem.F.type_dict_setdefault (thn (ho.run pins s σ H _ I h) fun u s1 ⟨x, H1, I1, rx, a, ex, d, q1⟩ => ?_)
  subst ex
  obtain rfl : u = Value.ref a := rx
  obtain ⟨t1, t2, _⟩ := isD_at I1 d
  refine ⟨t1, t2, ?_⟩
  rw [m.trees]
  refine Calls.callWith_builtin rfl (Calls.evalArgs_plain (Calls.spliced_cons (thn (he.run pins s1 σ H1 _ I1 q1) fun iv s2 ⟨y, H2, I2, ry, q2⟩ =>
    Calls.spliced_cons (thn (hf.run pins s2 σ H2 _ I2 q2) fun fv s3 ⟨z, H3, I3, rz, kvs, k, b, e1, ey, eb, hl, g1, g2⟩ => Calls.spliced_nil ?_))))
  subst ey
  cases (show iv = Value.ref b from ry)
  exact d_setdT hu I3 e1 eb hl rz (fun u w' s4 hv rw' I4 => ⟨u, H3, I4, rw', g1 u hv⟩) fun hv s4 I4 => ⟨z, _, I4, rz, g2 hv⟩
end
end Z

/-! # a dict of its own whose values are lists of its own -/
namespace Z
open PySem L2
section
variable {K : PySem.W.Frag} {H Ho H' Ho' : Hp} {κ α γ : Type} [Py κ] [DecidableEq κ] [DKey κ] [Py α] {Φ : γ → Prop} {R : Grp} {v w u : V} {Q : VK} {σ : L2.St}
/-- an entry: the key, the list's place, what it holds -/
abbrev Ent (κ : Type) [Py κ] [DKey κ] := DKey.kt κ × (Addr × List V)
inductive EM (K : PySem.W.Frag) (Ho : Hp) : List (Ent κ) → Dc κ (List α) → Prop
  | nil : EM K Ho [] []
  | cons {e : Ent κ} {es : List (Ent κ)} {k : κ} {xs : List α} {m : Dc κ (List α)} (hk : e.1 = DKey.key k) (d : DL K Ho e.2.2 xs) (hn : valM m k = none) (h : EM K Ho es m) : EM K Ho (e :: es) ((k, xs) :: m)
def rowsE (es : List (Ent κ)) : Grp := es.map fun e => (e.2.1, HO.lst e.2.2)
def kvsE (es : List (Ent κ)) : List (DKey.kt κ × V) := es.map fun e => (e.1, V.ref e.2.1)
theorem EM.mo {es : List (Ent κ)} {m : Dc κ (List α)} (h : EM K Ho es m) (e : Same Ho Ho') : EM K Ho' es m := by
  induction h with
  | nil => exact .nil
  | cons hk d hn _ ih => exact .cons hk (DL.mo d e) hn ih
theorem EM.len {es : List (Ent κ)} {m : Dc κ (List α)} (h : EM K Ho es m) : es.length = m.length := by
  induction h with
  | nil => rfl
  | cons _ _ _ _ ih => simp [ih]
theorem valM_put' {k j : κ} {a : α} : ∀ {m : Dc κ α}, valM m j = none → j ≠ k → valM (m.map fun p => if p.1 = k then (p.1, a) else p) j = none
  | [], _, _ => rfl
  | (q, b) :: m, h, hne => by
    by_cases c : q = j
    · simp [valM, c] at h
    · have hm : valM m j = none := by simpa [valM, c] using h
      have ih := valM_put' (a := a) hm hne
      rw [List.map_cons]
      by_cases d : q = k
      · rw [if_pos d]
        simpa [valM, c] using ih
      · rw [if_neg d]
        simpa [valM, c] using ih
theorem map_none {k : κ} {a : α} : ∀ {m : Dc κ α}, valM m k = none → (m.map fun p => if p.1 = k then (p.1, a) else p) = m
  | [], _ => rfl
  | (q, b) :: m, h => by
    by_cases c : q = k
    · simp [valM, c] at h
    · have hm : valM m k = none := by simpa [valM, c] using h
      rw [List.map_cons, if_neg c, map_none hm]
theorem valM_app {k j : κ} {a : α} : ∀ {m : Dc κ α}, valM m j = none → j ≠ k → valM (m ++ [(k, a)]) j = none
  | [], _, hne => by
    have : ¬ k = j := fun e => hne e.symm
    simp [valM, this]
  | (q, b) :: m, h, hne => by
    by_cases c : q = j
    · simp [valM, c] at h
    · have hm : valM m j = none := by simpa [valM, c] using h
      have ih := valM_app (a := a) hm hne
      rw [List.cons_append]
      simpa [valM, c] using ih
/-- a new entry -/
theorem EM.snoc {es : List (Ent κ)} {m : Dc κ (List α)} (h : EM K Ho es m) {k : κ} (hn : valM m k = none) (q : Addr) : EM K Ho (es ++ [(DKey.key k, q, [])]) (m ++ [(k, [])]) := by
  induction h with
  | nil => exact .cons rfl .nil rfl .nil
  | @cons e es k1 xs m hk d h0 h ih =>
    have c : k1 ≠ k := fun c => by simp [valM, c] at hn
    have hm : valM m k = none := by simpa [valM, c] using hn
    exact .cons hk d (valM_app h0 c) (ih hm)
/-- all lists stand for good from now on -/
theorem EM.fr {es : List (Ent κ)} {m : Dc κ (List α)} (h : EM K Ho es m) : ∀ {R : Grp}, Zs (rowsE es ++ R) H Ho → ∃ Ho', Same Ho Ho' ∧ Zs R H Ho' ∧ DL K Ho' ((kvsE es).map (·.2)) (m.map (·.2)) := by
  induction h with
  | nil => exact fun z => ⟨Ho, Same.refl _, z, .nil⟩
  | @cons e es k xs m hk d hn h ih =>
    intro R z
    have z1 : Zs ((e.2.1, HO.lst e.2.2) :: (rowsE es ++ R)) H Ho := z
    have z2 : Zs (rowsE es ++ ((e.2.1, HO.lst e.2.2) :: R)) H Ho := z1.perm List.perm_middle.symm
    obtain ⟨Ho1, s1, z3, d1⟩ := ih z2
    obtain ⟨Ho2, s2, z4, d2⟩ := OL.fr (R := R) (OL.mk (p := e.2.1) (DL.mo d s1)) z3
    exact ⟨Ho2, s1.trans s2, z4, .cons d2 (DL.mo d1 s2)⟩
/-- the entry of a key -/
theorem EM.val {es : List (Ent κ)} {m : Dc κ (List α)} (h : EM K Ho es m) (k : κ) : (valM m k = none ∧ @valV _ DKey.dec (kvsE es) (DKey.key k) = none) ∨
    ∃ (i : Nat) (e : Ent κ) (xs : List α), es[i]? = some e ∧ valM m k = some xs ∧ @valV _ DKey.dec (kvsE es) (DKey.key k) = some (.ref e.2.1) ∧ DL K Ho e.2.2 xs ∧
      ∀ (w : V) (x : α), Z.D K Ho w x → EM K Ho (es.set i (e.1, e.2.1, e.2.2 ++ [w])) (putM m k (xs ++ [x])) := by
  induction h with
  | nil => exact .inl ⟨rfl, rfl⟩
  | @cons e es k1 xs m hk d hn h ih =>
    by_cases c : k1 = k
    · subst c
      refine .inr ⟨0, e, xs, rfl, by simp [valM], ?_, d, fun w x dw => ?_⟩
      · exact @valV_pos _ DKey.dec (e.1, V.ref e.2.1) (kvsE es) (DKey.key k1) hk
      · have hm : putM ((k1, xs) :: m) k1 (xs ++ [x]) = (k1, xs ++ [x]) :: m := by
          unfold putM
          rw [List.any_cons, decide_eq_true rfl, Bool.true_or, if_pos rfl, List.map_cons, if_pos rfl, map_none hn]
        rw [hm]
        exact .cons hk (DL.push d dw) hn h
    · have e1 : ∀ {m : Dc κ (List α)}, valM ((k1, xs) :: m) k = valM m k := by intro m; simp [valM, c]
      have e2 : @valV _ DKey.dec (kvsE (e :: es)) (DKey.key k) = @valV _ DKey.dec (kvsE es) (DKey.key k) := @valV_neg _ DKey.dec (e.1, V.ref e.2.1) (kvsE es) (DKey.key k) (fun z => c (DKey.inj (hk.symm.trans z)))
      rcases ih with ⟨a, b⟩ | ⟨i, e', ys, g1, g2, g3, g4, g5⟩
      · exact .inl ⟨e1.trans a, e2.trans b⟩
      · refine .inr ⟨i + 1, e', ys, g1, e1.trans g2, e2.trans g3, g4, fun w x dw => ?_⟩
        have hm : putM ((k1, xs) :: m) k (ys ++ [x]) = (k1, xs) :: putM m k (ys ++ [x]) := by
          have ha : (m.any fun p => decide (p.1 = k)) = true := by rw [valM_any, g2]; rfl
          unfold putM
          rw [List.any_cons, ha, Bool.or_true, if_pos rfl, if_pos rfl, List.map_cons, if_neg c]
        rw [hm]
        refine .cons hk d ?_ (g5 w x dw)
        have ha : (m.any fun p => decide (p.1 = k)) = true := by rw [valM_any, g2]; rfl
        unfold putM
        rw [if_pos ha]
        exact valM_put' hn c
/-- a dict of its own, its values lists of its own -/
def OT (K : PySem.W.Frag) (Ho : Hp) (v : V) (m : Dc κ (List α)) (g : Grp) : Prop := ∃ p es, v = .ref p ∧ EM K Ho es m ∧ g = (p, DKey.ho (κ := κ) (kvsE es)) :: rowsE es
theorem OT.mo {m : Dc κ (List α)} {g : Grp} (h : OT K Ho v m g) (e : Same Ho Ho') : OT K Ho' v m g := by
  obtain ⟨p, es, rfl, d, rfl⟩ := h
  exact ⟨p, es, rfl, d.mo e, rfl⟩
theorem EM.keys {es : List (Ent κ)} {m : Dc κ (List α)} (h : EM K Ho es m) : (kvsE es).map (·.1) = m.map fun p => DKey.key p.1 := by
  induction h with
  | nil => rfl
  | cons hk _ _ _ ih => unfold kvsE at ih ⊢; rw [List.map_cons, List.map_cons, List.map_cons, ih, hk]
/-- its lists stand for good from now on -/
theorem OT.fr {m : Dc κ (List α)} {g : Grp} (h : OT K Ho v m g) (z : Zs (g ++ R) H Ho) : ∃ Ho' g', Same Ho Ho' ∧ Zs (g' ++ R) H Ho' ∧ OD K Ho' v m g' := by
  obtain ⟨p, es, rfl, d, rfl⟩ := h
  have z1 : Zs ((p, DKey.ho (κ := κ) (kvsE es)) :: (rowsE es ++ R)) H Ho := z
  obtain ⟨Ho', s, z2, dl⟩ := d.fr (z1.perm List.perm_middle.symm)
  exact ⟨Ho', [(p, DKey.ho (κ := κ) (kvsE es))], s, z2, p, kvsE es, rfl, ⟨d.keys, dl⟩, rfl⟩
/-- where the list of a key stands -/
def OTat (K : PySem.W.Frag) (Ho : Hp) (v : V) (m : Dc κ (List α)) (k : κ) (u : V) (g : Grp) : Prop := ∃ p es, v = .ref p ∧ EM K Ho es m ∧ g = (p, DKey.ho (κ := κ) (kvsE es)) :: rowsE es ∧ @valV _ DKey.dec (kvsE es) (DKey.key k) = some u
theorem OTat.mo {m : Dc κ (List α)} {k : κ} {g : Grp} (h : OTat K Ho v m k u g) (e : Same Ho Ho') : OTat K Ho' v m k u g := by
  obtain ⟨p, es, rfl, d, rfl, hv⟩ := h
  exact ⟨p, es, rfl, d.mo e, rfl, hv⟩
theorem EM.at {es : List (Ent κ)} {m : Dc κ (List α)} {p : Addr} {k : κ} (h : EM K Ho es m) (hs : (valM m k).isSome = true) : ∃ e : Ent κ, @valV _ DKey.dec (kvsE es) (DKey.key k) = some (.ref e.2.1) ∧ OTat K Ho (.ref p) m k (.ref e.2.1) ((p, DKey.ho (κ := κ) (kvsE es)) :: rowsE es) := by
  rcases h.val k with ⟨a, _⟩ | ⟨i, e, xs, g1, g2, g3, g4, g5⟩
  · rw [a] at hs; cases hs
  · exact ⟨e, g3, p, es, rfl, h, rfl, g3⟩
theorem row_at {es : List (Ent κ)} {i : Nat} {e : Ent κ} {p : Addr} (g1 : es[i]? = some e) : (((p, DKey.ho (κ := κ) (kvsE es)) :: rowsE es) ++ R)[i + 1]? = some (e.2.1, HO.lst e.2.2) := by
  have hi := (List.getElem?_eq_some_iff.mp g1).1
  show (rowsE es ++ R)[i]? = _
  rw [List.getElem?_append_left (by unfold rowsE; rw [List.length_map]; exact hi)]
  unfold rowsE
  rw [List.getElem?_map, g1]
  rfl
theorem g_tyAt {P : Prop} {m : Dc κ (List α)} {k : κ} {g : Grp} (z : Zs (g ++ R) H Ho) (o : OTat K Ho v m k u g) (kk : P) : tyV K "list" u H ∧ P := by
  obtain ⟨p, es, rfl, h, rfl, hv⟩ := o
  rcases h.val k with ⟨_, c⟩ | ⟨i, e, xs, g1, g2, g3, g4, g5⟩
  · rw [c] at hv; cases hv
  · have : u = .ref e.2.1 := Option.some.inj (hv.symm.trans g3)
    subst this
    exact ⟨.inl ⟨rfl, _, SqL.of (z.rt _ (List.mem_of_getElem? (row_at g1))).1⟩, kk⟩
theorem g_isdT {m : Dc κ (List α)} {g : Grp} {P : Addr → Prop} (z : Zs (g ++ R) H Ho) (o : OT K Ho v m g) (kk : ∀ a, v = .ref a → P a) : ∃ a, v = .ref a ∧ IsD H a ∧ P a := by
  obtain ⟨p, es, rfl, h, rfl⟩ := o
  exact ⟨p, rfl, DKey.isd (z.rt _ List.mem_cons_self).1, kk p rfl⟩
theorem g_appAt {m : Dc κ (List α)} {k : κ} {x : α} {g : Grp} (z : Zs (g ++ R) H Ho) (o : OTat K Ho v m k u g) (dx : Z.D K Ho w x) (hl : ∀ xs, valM m k = some xs → xs.length < sizeLine) (kk : ∀ m' g' H', (∀ xs, valM m k = some xs → m' = putM m k (xs ++ [x])) → Zs (g' ++ R) H' Ho → OT K Ho v m' g' → Q .non H') : rAppend u [w] H Q := by
  obtain ⟨p, es, rfl, h, rfl, hv⟩ := o
  rcases h.val k with ⟨_, c⟩ | ⟨i, e, xs, g1, g2, g3, g4, g5⟩
  · rw [c] at hv; cases hv
  have hu : u = .ref e.2.1 := Option.some.inj (hv.symm.trans g3)
  subst hu
  have hr : (((p, DKey.ho (κ := κ) (kvsE es)) :: rowsE es) ++ R)[i + 1]? = some (e.2.1, HO.lst e.2.2) := by
    have hi := (List.getElem?_eq_some_iff.mp g1).1
    show (rowsE es ++ R)[i]? = _
    rw [List.getElem?_append_left (by unfold rowsE; rw [List.length_map]; exact hi)]
    unfold rowsE
    rw [List.getElem?_map, g1]
    rfl
  refine ⟨e.2.1, e.2.2, w, rfl, rfl, (z.rt _ (List.mem_of_getElem? hr)).1, by rw [DL.len g4]; exact hl xs g2, ?_⟩
  have z2 := z.putI (o' := HO.lst (e.2.2 ++ [w])) hr
  refine kk (putM m k (xs ++ [x])) (((p, DKey.ho (κ := κ) (kvsE (es.set i (e.1, e.2.1, e.2.2 ++ [w]))))) :: rowsE (es.set i (e.1, e.2.1, e.2.2 ++ [w]))) _ (fun ys hy => by rw [g2] at hy; cases hy; rfl) ?_ ⟨p, _, rfl, g5 w x dx, rfl⟩
  have e1 : kvsE (es.set i (e.1, e.2.1, e.2.2 ++ [w])) = kvsE es := by
    unfold kvsE
    rw [List.map_set]
    apply List.ext_getElem?
    intro j
    rw [List.getElem?_set]
    split
    · rename_i c
      subst c
      split
      · rw [List.getElem?_map, g1]; rfl
      · rename_i c
        rw [List.getElem?_eq_none (by omega)]
    · rfl
  have e2 : rowsE (es.set i (e.1, e.2.1, e.2.2 ++ [w])) = (rowsE es).set i (e.2.1, HO.lst (e.2.2 ++ [w])) := by
    unfold rowsE
    rw [List.map_set]
  rw [e1, e2]
  have hi := (List.getElem?_eq_some_iff.mp g1).1
  have e3 : (((p, DKey.ho (κ := κ) (kvsE es)) :: rowsE es) ++ R).set (i + 1) (e.2.1, HO.lst (e.2.2 ++ [w])) = ((p, DKey.ho (κ := κ) (kvsE es)) :: (rowsE es).set i (e.2.1, HO.lst (e.2.2 ++ [w]))) ++ R := by
    show _ :: (rowsE es ++ R).set i _ = _ :: ((rowsE es).set i _ ++ R)
    rw [List.set_append_left _ _ (by unfold rowsE; rw [List.length_map]; exact hi)]
  rw [← e3]
  exact z2
/-- d.setdefault(k, []) -/
def setd (m : Dc κ (List α)) (k : κ) : Dc κ (List α) := if (valM m k).isSome = true then m else m ++ [(k, [])]
theorem valM_new {k : κ} {a : List α} : ∀ {m : Dc κ (List α)}, valM m k = none → valM (m ++ [(k, a)]) k = some a
  | [], _ => by simp [valM]
  | (q, b) :: m, h => by
    by_cases c : q = k
    · simp [valM, c] at h
    · have hm : valM m k = none := by simpa [valM, c] using h
      have ih := valM_new (a := a) hm
      rw [List.cons_append]
      simpa [valM, c] using ih
theorem dkT {k : Int × Int} (d : Z.D K Ho w k) : ∃ b, w = .ref b ∧ Ho b = some (.tup ((DKey.key k : List L2.Key).map kV)) := by
  cases d with
  | tup hs ha =>
    cases ha with
    | cons h1 h2 =>
      cases h2 with
      | cons h3 h4 =>
        cases h4
        rw [d_int h1, d_int h3] at hs
        exact ⟨_, rfl, hs⟩
end
section
variable {K : PySem.W.Frag} {H Ho : Hp} {α : Type} [Py α] {R : Grp} {v w : V} {Q : VK}
def GSetd (Q : VK) (a : Addr) (y z : V) (H : Hp) : Prop := ∃ kvs k b, H a = some (.dT kvs) ∧ y = .ref b ∧ H b = some (.tup (k.map kV)) ∧ kvs.length < sizeLine ∧
  (∀ u, valV kvs k = some u → Q u H) ∧ (valV kvs k = none → Q z (upd H a (.dT (putK kvs k z))))
theorem g_setd {m : Dc (Int × Int) (List α)} {k : Int × Int} {g : Grp} {a q : Addr} (ea : v = .ref a) (z : Zs ([(q, HO.lst [])] ++ (g ++ R)) H Ho) (o : OT K Ho v m g) (dk : Z.D K Ho w k) (hl : m.length < sizeLine)
    (kk : ∀ u g' H', Zs (g' ++ R) H' Ho → OTat K Ho v (setd m k) k u g' → Q u H') : GSetd Q a w (.ref q) H := by
  obtain ⟨p, es, e1, h, rfl⟩ := o
  rw [ea] at e1
  cases e1
  subst ea
  obtain ⟨b, rfl, hb⟩ := dkT dk
  have z0 : Zs ((q, HO.lst []) :: (a, HO.dT (kvsE es)) :: (rowsE es ++ R)) H Ho := z
  refine ⟨kvsE es, DKey.key k, b, (z0.rt _ (List.mem_cons_of_mem _ List.mem_cons_self)).1, rfl, z.le _ _ hb, ?_, fun u hu => ?_, fun hn => ?_⟩
  · unfold kvsE; rw [List.length_map, h.len]; exact hl
  · have hs : (valM m k).isSome = true := by
      rcases h.val k with ⟨_, c⟩ | ⟨i, e, xs, _, c, _⟩
      · have : (none : Option V) = some u := c.symm.trans hu
        cases this
      · rw [c]; rfl
    have es' : setd m k = m := if_pos hs
    obtain ⟨e, he, ha⟩ := EM.at (p := a) h hs
    have hue : u = .ref e.2.1 := Option.some.inj (hu.symm.trans he)
    rw [hue]
    exact kk _ _ _ (Zs.tail z0) (by rw [es']; exact ha)
  · have hs : valM m k = none := by
      rcases h.val k with ⟨c, _⟩ | ⟨i, e, xs, _, _, c, _⟩
      · exact c
      · have : (some (V.ref e.2.1) : Option V) = none := c.symm.trans hn
        cases this
    have es' : setd m k = m ++ [(k, [])] := if_neg (by rw [hs]; exact Bool.false_ne_true)
    have h' := h.snoc hs q
    have hp : putK (κ := List L2.Key) (kvsE es) (DKey.key k : List L2.Key) (.ref q) = kvsE (es ++ [((DKey.key k : List L2.Key), q, [])]) := by
      rw [putK_new _ hn]
      unfold kvsE
      rw [List.map_append]
      rfl
    rw [hp]
    obtain ⟨e, he, ha⟩ := EM.at (p := a) (k := k) h' (by rw [valM_new hs]; rfl)
    have z1 : Zs ((a, HO.dT (kvsE es)) :: ((rowsE es ++ [(q, HO.lst [])]) ++ R)) H Ho := z0.perm (by
      refine (List.Perm.swap _ _ _).trans (List.Perm.cons _ ?_)
      rw [List.append_assoc]
      exact List.perm_middle.symm)
    have z2 := z1.put (o' := HO.dT (kvsE (es ++ [((DKey.key k : List L2.Key), q, [])])))
    have hr : rowsE (es ++ [((DKey.key k : List L2.Key), q, [])]) = rowsE es ++ [(q, HO.lst [])] := by unfold rowsE; rw [List.map_append]; rfl
    have hq : e.2.1 = q := by
      have hv : valV (κ := List L2.Key) (kvsE (es ++ [((DKey.key k : List L2.Key), q, [])])) (DKey.key k : List L2.Key) = some (.ref q) := by
        rw [← hp, valV_put, if_pos rfl]
      have := Option.some.inj (he.symm.trans hv)
      cases this; rfl
    rw [hq] at ha
    refine kk _ _ _ ?_ (by rw [es']; exact ha)
    rw [hr]
    exact z2
variable {td ty tx : TE} {σ : L2.St} {γ : Type} {Φ : γ → Prop}
theorem y_dsetd (k : td σ H fun x H1 => ∃ a, x = .ref a ∧ IsD H1 a ∧ ty σ H1 fun y H2 => tx σ H2 fun z H3 => GSetd Q a y z H3) : tDSetd td ty tx σ H Q := k
theorem g_dnewTo (z : Zs R H Ho) (k : ∀ H' v g, Zs (g ++ R) H' Ho → OT K Ho v ([] : Dc (Int × Int) (List α)) g → Q v H') : tDNewT σ H Q := fun p hp => k _ _ _ (z.root hp) ⟨p, [], rfl, .nil, rfl⟩
theorem t_o {G : V → Prop} {e : Dc (Int × Int) (List α)} {g : Grp} {f : Dc (Int × Int) (List α) → W γ} (hw : (W.bind (W.ret e) f).run Φ) (z : Zs (g ++ R) H Ho) (o : OT K Ho v e g) (k : ∀ x v g, Zs (g ++ R) H Ho → OT K Ho v x g → (f x).run Φ → G v) : LetV G v := k e v g z o hw
/-- d.setdefault(k, []).append(x) -/
def sdApp {κ : Type} [DecidableEq κ] (m : Dc κ (List α)) (k : κ) (x : α) : W (Dc κ (List α)) := W.guard (m.length < sizeLine ∧ ((valM m k).getD []).length < sizeLine) (W.ret (putM (setd m k) k ((valM m k).getD [] ++ [x])))
end
end Z

/-! # what is one's own is lent for a call; `is` of bools; count; isinstance of any value -/
namespace Z
open PySem PySem.Spec PyProof.Rows L2
section
variable {K : PySem.W.Frag} {H Ho H' Ho' : Hp} {κ α γ : Type} [Py κ] [DecidableEq κ] [DKey κ] [Py α] {Φ : γ → Prop} {R : Grp} {v w u : V} {Q : VK} {σ : L2.St}
theorem l_lend {P : Prop} {xs : List α} {g : Grp} (o : OL K Ho v xs g) (z : Zs (g ++ R) H Ho) (k : ∀ Ho', Same Ho Ho' → Zs R H Ho' → Z.D K Ho' v xs → (∀ H2 Ho2, Same Ho' Ho2 → Zs R H2 Ho2 → Zs (g ++ R) H2 Ho) → P) : P := by
  obtain ⟨p, vs, rfl, d, rfl⟩ := o
  have z0 : Zs ((p, HO.lst vs) :: R) H Ho := z
  have hs : Same Ho (upd Ho p (.lst vs)) := Same.new z0.headN
  refine k (upd Ho p (.lst vs)) hs z0.freeze (.lst (SqL.of upd_same) (DL.mo d hs)) (fun H2 Ho2 s z2 => ?_)
  have hp : Ho2 p = some (.lst vs) := s _ _ upd_same
  refine ⟨fun b x e => z2.le _ _ (s _ _ (hs _ _ e)), fun r hr => ?_, z0.nd, z0.nt⟩
  rcases List.mem_cons.mp hr with e | hr
  · subst e
    exact ⟨z2.le _ _ hp, z0.headN⟩
  · exact ⟨(z2.rt r hr).1, (z0.rt r (List.mem_cons_of_mem _ hr)).2⟩
theorem p_again {P : Prop} {rs : Grp} (z : Zs rs H Ho) (k : ∀ Ho', Same Ho Ho' → Zs rs H Ho' → P) : P := k Ho (Same.refl _) z
theorem t_fr {P : Prop} {m : Dc κ (List α)} {g : Grp} (o : OT K Ho v m g) (z : Zs (g ++ R) H Ho) (k : ∀ Ho' g', Same Ho Ho' → Zs (g' ++ R) H Ho' → OD K Ho' v m g' → P) : P := by
  obtain ⟨Ho', g', s, z', o'⟩ := o.fr z
  exact k Ho' g' s z' o'
theorem valM_setd {m : Dc κ (List α)} {k : κ} : valM (setd m k) k = some ((valM m k).getD []) := by
  unfold setd
  cases h : valM m k with
  | none => rw [if_neg (by simp)]; exact valM_new h
  | some xs => rw [if_pos (by simp), h]; rfl
theorem sd_h1 {m : Dc κ (List α)} {k : κ} {x : α} {f : Dc κ (List α) → W γ} (hw : (W.bind (sdApp m k x) f).run Φ) : m.length < sizeLine := hw.1.1
theorem sd_h2 {m : Dc κ (List α)} {k : κ} {x : α} {f : Dc κ (List α) → W γ} (hw : (W.bind (sdApp m k x) f).run Φ) (xs : List α) (h : valM (setd m k) k = some xs) : xs.length < sizeLine := by
  rw [valM_setd] at h
  cases h
  exact hw.1.2
theorem sd_run {m m' : Dc κ (List α)} {k : κ} {x : α} {g : Grp} {f : Dc κ (List α) → W γ} (hw : (W.bind (sdApp m k x) f).run Φ) (hm : ∀ xs, valM (setd m k) k = some xs → m' = putM (setd m k) k (xs ++ [x])) (o : OT K Ho v m' g) : ∃ q, OT K Ho v q g ∧ (f q).run Φ := by
  rw [hm _ valM_setd] at o
  exact ⟨_, o, hw.2⟩
end
section
variable {X : Cx}
theorem bl_beq (a b : Bool) : (Value.bool a == Value.bool b) = decide (a = b) := by
  by_cases e : a = b
  · subst e
    exact (beq_self_eq_true (Value.bool a)).trans (decide_eq_true (p := a = a) rfl).symm
  · exact (beq_eq_false_iff_ne.mpr fun z => e (Value.bool.inj z)).trans (decide_eq_false e).symm
def rIsB : R2 := fun x y H Q => ∃ a b, x = .bl a ∧ y = .bl b ∧ Q (.bl (decide (a = b))) H
def rNotB : R2 := fun x y H Q => ∃ a b, x = .bl a ∧ y = .bl b ∧ Q (.bl (!decide (a = b))) H
theorem op_isB : OpR X (compareOp .Is) rIsB := by
  intro pins s σ H x y v u Q I rx ry h
  obtain ⟨a, b, rfl, rfl, q⟩ := h
  cases (show v = Value.bool a from rx)
  cases (show u = Value.bool b from ry)
  exact wpAny_is_plain rfl (fin_bl I q (bl_beq a b).symm)
theorem op_notB : OpR X (compareOp .IsNot) rNotB := by
  intro pins s σ H x y v u Q I rx ry h
  obtain ⟨a, b, rfl, rfl, q⟩ := h
  cases (show v = Value.bool a from rx)
  cases (show u = Value.bool b from ry)
  exact wpAny_isNot_plain rfl (fin_bl I q (congrArg not (bl_beq a b).symm))
end
section
variable {K : PySem.W.Frag} {H Ho : Hp} {R : Grp} {v w : V} {Q : VK} {α : Type} [Py α]
theorem y_isB {a b : Bool} (k : Q (.bl (decide (a = b))) H) : rIsB (.bl a) (.bl b) H Q := ⟨a, b, rfl, rfl, k⟩
theorem y_notB {a b : Bool} (k : Q (.bl (!decide (a = b))) H) : rNotB (.bl a) (.bl b) H Q := ⟨a, b, rfl, rfl, k⟩
theorem zmt_cnt {X : Cx} (hK : X.K = K) : MtR X "list.count" (rCntI K) := hK ▸ mt_lcount
def cntZ (xs : List Int) (k : Int) : Int := ((xs.count k : Nat) : Int)
theorem y_cnt {xs : List Int} {k : Int} (d : LV K R Ho v xs) (z : Zs R H Ho) (kk : Q (.int (cntZ xs k)) H) : rCntI K v [.int k] H Q := by
  obtain ⟨p, vs, rfl, d, s⟩ := d.rd z
  rw [dl_ints d] at s
  exact ⟨p, xs, k, rfl, rfl, s, kk⟩
def pyK : PyData → String
  | .none => "NoneType" | .bool _ => "bool" | .int _ => "int" | .str _ => "str" | .list _ => "list" | .tuple _ => "tuple" | .dict _ => "dict"
def isP (x : PyData) (T : String) : Bool := (kitB (pyK x) T).getD false
/-- no instance -/
def okP (y : PyData) : Prop := ∀ l, y ≠ .dict l
theorem y_isiP {x : α} {T : String} (d : Z.D K H v x) (hg : okP (toPy x)) (h : (["NoneType", "bool", "int", "str", "list", "tuple", "dict"].all fun k => (kitB k T).isSome) = true) (k : Q (.bl (isP (toPy x) T)) H) : rIsi K [v, .ty T] H Q := by
  have hs : (kitB (pyK (toPy x)) T).isSome = true := by
    refine (List.all_eq_true.mp h) _ ?_
    cases toPy x <;> simp [pyK]
  obtain ⟨b, hb⟩ := Option.isSome_iff_exists.mp hs
  have e : isP (toPy x) T = b := by unfold isP; rw [hb]; rfl
  rw [e] at k
  refine ⟨v, .ty T, _, .type T, b, rfl, .ty T, ?_, kit_ty hb, k⟩
  have d : Dq K H v (toPy x) := d
  generalize toPy x = y at d hg
  cases d with
  | ins _ _ _ => exact absurd rfl (hg _)
  | non => exact .base .non
  | bl b => exact .base (.bl _)
  | int i => exact .base (.int _)
  | str s => exact .base (.str _)
  | lst hs _ => exact tyx_list hs
  | tup hs _ => exact tyx_tup (SqT.of hs)
end
/-! methods inside a comprehension: the written part is named outside -/
section
variable {X : Cx} {K : PySem.W.Frag} {o e : Expr} {es : List Expr} {to : TE} {t : TA} {name : Str} {apos cpos : Pos} {T id : String} {r : V → List V → Hp → VK → Prop}
theorem zpe_bm (hK : X.K = K) (pa : PlainAttrs T) (slot : Slot T name id) (hty : typeOf (.builtin id) = pure (.type "method_descriptor")) (hm : MtR X id r) (ho : PE X o to) (ha : PA X (e :: es) t)
    (hbase : attributeBase o name X.env (eval o X.env) = eval o X.env := by rfl)
    (hfew : ((backTo cpos (starEach (e :: es) X.env)).all (fun x => !x.1) && (backToKw cpos (keywordEach [] X.env)).all (fun x => x.1.isSome)
      && decide ((e :: es).length + ([] : List Keyword).length + (if ([] : List Keyword).isEmpty then 0 else 1) < 30)) = true := by rfl)
    (hline : (apos.endLine == cpos.line) = true := by rfl) (hs : starEach (e :: es) X.env = (false, eval e X.env) :: starEach es X.env := by rfl) (hplain : (backTo cpos (starEach es X.env)).any (·.1) = false := by rfl) :
    PE X (.Call (.Attribute o name apos) (e :: es) [] cpos) (tBM K T r to t) := hK ▸ pe_bm pa slot hty hm ho ha hbase hfew hline hs hplain
theorem zpe_bm0 (hK : X.K = K) (pa : PlainAttrs T) (slot : Slot T name id) (hty : typeOf (.builtin id) = pure (.type "method_descriptor")) (hm : MtR X id r) (ho : PE X o to)
    (hbase : attributeBase o name X.env (eval o X.env) = eval o X.env := by rfl) (hline : (apos.endLine == cpos.line) = true := by rfl) : PE X (.Call (.Attribute o name apos) [] [] cpos) (tBM0 K T r to) := hK ▸ pe_bm0 pa slot hty hm ho hbase hline
end
end Z

/-! # texts -/
namespace Z
open PySem PySem.Spec PyProof.Rows L2
section
variable {K : PySem.W.Frag} {H Ho : Hp} {R : Grp} {v w : V} {Q : VK} {σ : L2.St} {te to : TE} {X : Cx}
def strI (i : Int) : Str := toString i
def CStr (i : Int) : Prop := i.natAbs.log2 < 1920
def rCatStr : R2 := fun x y H Q => ∃ i j, x = .str i ∧ y = .str j ∧ i.length + j.length ≤ sizeLine ∧ Q (.str (i ++ j)) H
theorem zop_catStr : OpR X (binaryOp .Add) rCatStr := op_add_str
theorem y_catStr {a b : Str} (hg : a.length + b.length ≤ sizeLine) (k : Q (.str (a ++ b)) H) : rCatStr (.str a) (.str b) H Q := ⟨a, b, rfl, rfl, hg, k⟩
def rStrI : List V → Hp → VK → Prop := fun xs H Q => ∃ i, xs = [.int i] ∧ i.natAbs.log2 < 1920 ∧ Q (.str (toString i)) H
theorem zstrI : CallR X (.type "str") rStrI := call_str_int
theorem y_strI {i : Int} (hg : CStr i) (k : Q (.str (strI i)) H) : rStrI [.int i] H Q := ⟨i, rfl, hg, k⟩
theorem dl_strs {vs : List V} : ∀ {xs : List Str}, DL K H vs xs → vs = xs.map V.str := by
  induction vs with
  | nil => intro xs h; cases xs with | nil => rfl | cons x xs => cases h
  | cons v vs ih =>
    intro xs h
    cases xs with
    | nil => cases h
    | cons x xs => cases h with | cons h1 h2 => rw [ih h2, d_str h1]; rfl
def rJoin (K : PySem.W.Frag) : V → List V → Hp → VK → Prop := fun x xs H Q => ∃ a p, ∃ ys : List Str, x = .str a ∧ xs = [.ref p] ∧ (SqL K H p (ys.map V.str) ∨ SqT K H p (ys.map V.str)) ∧ (ys.map (·.length)).sum + ys.length * a.length ≤ 16777216 ∧ Q (.str (Txt.join a ys)) H
theorem zmt_join (hK : X.K = K) : MtR X "str.join" (rJoin K) := hK ▸ mt_join
def JoinG (a : Str) (ys : List Str) : Prop := (ys.map (·.length)).sum + ys.length * a.length ≤ 16777216
theorem y_sjoin {a : Str} {ys : List Str} (d : LV K R Ho w ys) (z : Zs R H Ho) (hg : JoinG a ys) (k : Q (.str (Txt.join a ys)) H) : rJoin K (.str a) [w] H Q := by
  obtain ⟨p, vs, rfl, d, s⟩ := d.rd z
  rw [dl_strs d] at s
  exact ⟨a, p, ys, rfl, rfl, .inl s, hg, k⟩
def StrR (r : V → List V → Hp → VK → Prop) (te : TE) (σ : L2.St) (Q : VK) (x : V) (H1 : Hp) : Prop := (∃ a, x = .str a) ∧ te σ H1 fun y H2 => r x [y] H2 Q
theorem y_tm1 {r : V → List V → Hp → VK → Prop} (k : to σ H fun x H1 => StrR r te σ Q x H1) : tM1 r to te σ H Q := k
theorem y_tm1s {r : V → List V → Hp → VK → Prop} {a : Str} (k : te σ H fun y H2 => r (.str a) [y] H2 Q) : StrR r te σ Q (.str a) H := ⟨⟨a, rfl⟩, k⟩
/-! f-strings -/
def tFs (ts : List TE) : TE := fun σ H Q => tJs ts Str.empty σ H fun out H1 => Q (.str out) H1
theorem zpe_fs {v1 v2 : Expr} {rest : List Expr} {ts : List TE} {pos : Pos} (h : PJ X (v1 :: v2 :: rest) ts) : PE X (.JoinedStr (v1 :: v2 :: rest) pos) (tFs ts) := pe_joined h
def JsC (ts : List TE) (acc : Str) (σ : L2.St) (QJ : Str → Hp → Prop) (x : V) (H1 : Hp) : Prop := ∃ y : Str, x = .str y ∧ (acc ++ y).length ≤ sizeLine ∧ tJs ts (acc ++ y) σ H1 QJ
theorem y_fs {ts : List TE} (k : tJs ts Str.empty σ H fun out H1 => Q (.str out) H1) : tFs ts σ H Q := k
theorem y_jsC {t : TE} {ts : List TE} {acc : Str} {QJ : Str → Hp → Prop} (k : t σ H fun x H1 => JsC ts acc σ QJ x H1) : tJs (t :: ts) acc σ H QJ := k
theorem y_jsS {ts : List TE} {acc y : Str} {QJ : Str → Hp → Prop} (hg : (acc ++ y).length ≤ sizeLine) (k : tJs ts (acc ++ y) σ H QJ) : JsC ts acc σ QJ (.str y) H := ⟨y, rfl, hg, k⟩
theorem y_jsN {acc : Str} (k : Q (.str acc) H) : tJs [] acc σ H fun out H1 => Q (.str out) H1 := k
def FmtK (Q : VK) (x : V) (H1 : Hp) : Prop := (∃ y : Str, x = .str y ∧ y.length ≤ sizeLine ∧ Q (.str y) H1) ∨ ∃ i : Int, x = .int i ∧ i.natAbs.log2 < 1920 ∧ Q (.str (toString i)) H1
theorem y_fmt (k : te σ H fun x H1 => FmtK Q x H1) : tFmt te σ H Q := k
theorem y_fmtI {i : Int} (hg : CStr i) (k : Q (.str (strI i)) H) : FmtK Q (.int i) H := .inr ⟨i, rfl, hg, k⟩
theorem y_fmtS {y : Str} (hg : y.length ≤ sizeLine) (k : Q (.str y) H) : FmtK Q (.str y) H := .inl ⟨y, rfl, hg, k⟩
end
end Z

/-! # a tuple of two lists of one's own -/
namespace Z
open PySem L2
section
variable {K : PySem.W.Frag} {H Ho H' Ho' : Hp} {α β γ : Type} [Py α] [Py β] {Φ : γ → Prop} {R g0 g1 g : Grp} {v w u v0 v1 : V} {Q : VK} {σ : L2.St} {xs : List α} {ys : List β} {x : List α × List β}
def TupAt (Ho : Hp) (v v0 v1 : V) : Prop := ∃ p, v = .ref p ∧ Ho p = some (.tup [v0, v1])
theorem TupAt.mo (h : TupAt Ho v v0 v1) (e : Same Ho Ho') : TupAt Ho' v v0 v1 := by
  obtain ⟨p, rfl, hp⟩ := h
  exact ⟨p, rfl, e _ _ hp⟩
def OP (K : PySem.W.Frag) (Ho : Hp) (v : V) (x : List α × List β) (g : Grp) : Prop := ∃ v0 v1 g0 g1, TupAt Ho v v0 v1 ∧ OL K Ho v0 x.1 g0 ∧ OL K Ho v1 x.2 g1 ∧ g = g0 ++ g1
theorem OP.mo (h : OP K Ho v x g) (e : Same Ho Ho') : OP K Ho' v x g := by
  obtain ⟨v0, v1, g0, g1, t, o0, o1, rfl⟩ := h
  exact ⟨v0, v1, g0, g1, t.mo e, o0.mo e, o1.mo e, rfl⟩
theorem p_open {P : Prop} (o : OP K Ho v x g) (z : Zs (g ++ R) H Ho) (k : ∀ v0 v1 g0 g1, TupAt Ho v v0 v1 → OL K Ho v0 x.1 g0 → OL K Ho v1 x.2 g1 → Zs (g0 ++ (g1 ++ R)) H Ho → P) : P := by
  obtain ⟨v0, v1, g0, g1, t, o0, o1, rfl⟩ := o
  rw [List.append_assoc] at z
  exact k v0 v1 g0 g1 t o0 o1 z
theorem p_close {P : Prop} (t : TupAt Ho v v0 v1) (o0 : OL K Ho v0 xs g0) (o1 : OL K Ho v1 ys g1) (z : Zs (g0 ++ (g1 ++ R)) H Ho) (k : ∀ g, OP K Ho v (xs, ys) g → Zs (g ++ R) H Ho → P) : P :=
  k (g0 ++ g1) ⟨v0, v1, g0, g1, t, o0, o1, rfl⟩ (by rw [List.append_assoc]; exact z)
theorem p_reopen {P : Prop} (t : TupAt Ho v v0 v1) (o : OP K Ho v x g) (z : Zs (g ++ R) H Ho) (k : ∀ g0 g1, OL K Ho v0 x.1 g0 → OL K Ho v1 x.2 g1 → Zs (g0 ++ (g1 ++ R)) H Ho → P) : P := by
  obtain ⟨w0, w1, g0, g1, t2, o0, o1, rfl⟩ := o
  rw [List.append_assoc] at z
  obtain ⟨p, rfl, hp⟩ := t
  obtain ⟨q, hq, hq2⟩ := t2
  cases hq
  rw [hp] at hq2
  cases hq2
  exact k g0 g1 o0 o1 z
theorem p_fr {P : Prop} (o : OP K Ho v x g) (z : Zs (g ++ R) H Ho) (k : ∀ Ho', Same Ho Ho' → Zs R H Ho' → Z.D K Ho' v x → P) : P := by
  obtain ⟨w0, w1, g0, g1, t, o0, o1, rfl⟩ := o
  rw [List.append_assoc] at z
  obtain ⟨Ho1, e1, z1, d0⟩ := OL.fr o0 z
  obtain ⟨Ho2, e2, z2, d1⟩ := OL.fr (o1.mo e1) z1
  refine k Ho2 (e1.trans e2) z2 ?_
  obtain ⟨p, rfl, hp⟩ := t
  exact .tup (e2 _ _ (e1 _ _ hp)) (.cons (D.mo d0 e2) (.cons d1 .nil))
theorem p_tupk (z : Zs R H Ho) (k : ∀ p H' Ho', Same Ho Ho' → Zs R H' Ho' → TupAt Ho' (.ref p) v0 v1 → Q (.ref p) H') : TupK Q [v0, v1] H :=
  ⟨by show 2 ≤ sizeLine; decide, fun p hp => k p _ _ (Same.new (z.free hp)) (z.alloc hp) ⟨p, rfl, upd_same⟩⟩
theorem TupAt.d (t : TupAt Ho v v0 v1) (d0 : Z.D K Ho v0 xs) (d1 : Z.D K Ho v1 ys) : Z.D K Ho v (xs, ys) := by
  obtain ⟨p, rfl, hp⟩ := t
  exact .tup hp (.cons d0 (.cons d1 .nil))
theorem TupAt.rd (t : TupAt Ho v v0 v1) (l0 : LV K R Ho v0 xs) (l1 : LV K R Ho v1 ys) (z : Zs R H Ho) : Z.D K H v (xs, ys) := by
  obtain ⟨p, rfl, hp⟩ := t
  exact .tup (z.le _ _ hp) (.cons (l0.dp z) (.cons (l1.dp z) .nil))
theorem p_ix0 (t : TupAt Ho v v0 v1) (z : Zs R H Ho) (k : Q v0 H) : rIxT K v (.int 0) H Q := by
  obtain ⟨p, rfl, hp⟩ := t
  exact ⟨p, [v0, v1], 0, v0, rfl, rfl, SqT.of (z.le _ _ hp), rfl, k⟩
theorem p_ix1 (t : TupAt Ho v v0 v1) (z : Zs R H Ho) (k : Q v1 H) : rIxT K v (.int 1) H Q := by
  obtain ⟨p, rfl, hp⟩ := t
  exact ⟨p, [v0, v1], 1, v1, rfl, rfl, SqT.of (z.le _ _ hp), rfl, k⟩
theorem p_len (t : TupAt Ho v v0 v1) (z : Zs R H Ho) (k : Q (.int 2) H) : rLenZ K [v] H Q := by
  obtain ⟨p, rfl, hp⟩ := t
  exact ⟨p, [v0, v1], rfl, .inr (SqT.of (z.le _ _ hp)), k⟩
theorem p_gt2 {i j : Nat} {QS : L2.St → Hp → Prop} (σ' : V → V → L2.St) (hσ : ∀ v u, (σ.set i (some v)).set j (some u) = σ' v u) (t : TupAt Ho v v0 v1) (z : Zs R H Ho) (k : QS (σ' v0 v1) H) : gTup K 2 (gCons (gName i) (gCons (gName j) gNil)) v σ H QS := by
  obtain ⟨p, rfl, hp⟩ := t
  exact ⟨_, _, rfl, SqT.of (z.le _ _ hp), rfl, _, _, rfl, _, _, rfl, rfl, by rw [hσ]; exact k⟩
theorem p_o {G : V → Prop} {e : List α × List β} {f : List α × List β → W γ} (hw : (W.bind (W.ret e) f).run Φ) (z : Zs (g ++ R) H Ho) (o : OP K Ho v e g) (k : ∀ x v g, Zs (g ++ R) H Ho → OP K Ho v x g → (f x).run Φ → G v) : LetV G v := k e v g z o hw
theorem g_rep {n : Int} (z : Zs (g ++ R) H Ho) (o : OL K Ho v xs g) (hg : repG xs n) (k : ∀ H' p ws, Zs ([(p, .lst ws)] ++ (g ++ R)) H' Ho → DL K Ho ws (repL xs n) → Q (.ref p) H') : rRep v (.int n) H Q := by
  obtain ⟨p, vs, rfl, d, rfl⟩ := o
  exact ⟨p, n, vs, rfl, rfl, z.head, hg.1, hg.2.1, by rw [DL.len d]; exact hg.2.2, fun q hq => k _ q _ (z.root hq) (rep_dl d _)⟩
theorem zpe_revL {X : Cx} {e : Expr} {te : TE} {k : Nat} {p1 p2 p3 pos : Pos} (hK : X.K = K) (he : PE X e te) : PE X (.Subscript e (.Slice none none (some (.UnaryOp .USub (.Constant (.int 1) k p1) p2)) p3) pos) (tRevL K te) := hK ▸ pe_revL he
def RevK (K : PySem.W.Frag) (Q : VK) (x : V) (H1 : Hp) : Prop := ∃ a xs, x = .ref a ∧ SqL K H1 a xs ∧ ∀ p, H1 p = none → Q (.ref p) (upd H1 p (.lst xs.reverse))
theorem y_revL {te : TE} (k : te σ H fun x H1 => RevK K Q x H1) : tRevL K te σ H Q := k
theorem y_rev1 (d : LV K R Ho v xs) (z : Zs R H Ho) (k : ∀ H' p ws, Zs ((p, .lst ws) :: R) H' Ho → DL K Ho ws xs.reverse → Q (.ref p) H') : RevK K Q v H := by
  obtain ⟨p, vs, rfl, d, s⟩ := d.rd z
  refine ⟨p, vs, rfl, s, fun q hq => k _ q _ (z.root hq) ?_⟩
  show DqAll _ _ _ (xs.reverse.map Py.toPy)
  rw [List.map_reverse]
  exact dpAll_rev d
end
/-! dicts whose keys are four ints -/
instance : DKey (P4 Int Int Int Int) where
  kt := List L2.Key
  dec := inferInstance
  key p := [.inl p.a, .inl p.b, .inl p.c, .inl p.d]
  inj h := by
    rename_i x y
    obtain ⟨a1, a2, a3, a4⟩ := x
    obtain ⟨b1, b2, b3, b4⟩ := y
    simp only [List.cons.injEq, Sum.inl.injEq, and_true] at h
    rw [h.1, h.2.1, h.2.2.1, h.2.2.2]
  ho := .dT
  get e s d := by
    cases d with
    | tup hs ha =>
      cases ha with
      | cons h1 ha => cases ha with
        | cons h2 ha => cases ha with
          | cons h3 ha => cases ha with
            | cons h4 ha =>
              cases ha
              rw [d_int h1, d_int h2, d_int h3, d_int h4] at hs
              exact DGet.t e (s _ _ hs)
  put e s d h := by
    cases d with
    | tup hs ha =>
      cases ha with
      | cons h1 ha => cases ha with
        | cons h2 ha => cases ha with
          | cons h3 ha => cases ha with
            | cons h4 ha =>
              cases ha
              rw [d_int h1, d_int h2, d_int h3, d_int h4] at hs
              exact DPut.t e (s _ _ hs) h
  isd e := .inr ⟨_, .inl e⟩
section
variable {K : PySem.W.Frag} {H Ho : Hp} {α : Type} [Py α] {R : Grp} {Q : VK} {σ : L2.St}
theorem g_dnewT4 (z : Zs R H Ho) (k : ∀ H' v g, Zs (g ++ R) H' Ho → OD K Ho v ([] : Dc (P4 Int Int Int Int) α) g → Q v H') : tDNewT σ H Q := fun p hp => k _ _ _ (z.root hp) ⟨p, [], rfl, ⟨rfl, .nil⟩, rfl⟩
end
end Z

/-! # texts, sign by sign; split, int -/
namespace Z
open PySem PySem.Spec PyProof.Rows L2
section
variable {K : PySem.W.Frag} {H Ho : Hp} {R : Grp} {v w : V} {Q : VK} {σ : L2.St} {te to : TE} {X : Cx} {γ : Type} {Φ : γ → Prop}
def chS (z : Str) : List Str := z.cps.toList.map fun c => (⟨#[c]⟩ : Str)
theorem trn_str {z : Str} : Trn K [] (Its z) (chS z) Ho := by
  intro i rs' H' Ho' e zz sub
  refine ⟨fun x hx => ?_, fun hl => ?_⟩
  · unfold chS at hx
    rw [List.getElem?_map, Option.map_eq_some_iff] at hx
    obtain ⟨c, hc, rfl⟩ := hx
    have hi : i < z.cps.size := by
      have := (List.getElem?_eq_some_iff.mp hc).1
      rwa [Array.length_toList] at this
    refine ⟨hi, fun y H'' yy => ?_⟩
    obtain ⟨rfl, d, hd, rfl⟩ := yy
    have : d = c := by
      rw [Array.getElem?_toList] at hc
      exact Option.some.inj (hd.symm.trans hc)
    subst this
    exact ⟨Ho', Same.refl _, fun _ z => z, .str _⟩
  · unfold chS at hl
    rw [List.length_map, Array.length_toList] at hl
    exact hl
def SrcS (R : It → Hp → Prop) (x : V) (H : Hp) : Prop := ∃ z, x = .str z ∧ R (Its z) H
theorem k_iStr {R : It → Hp → Prop} (k : te σ H fun x H1 => SrcS R x H1) : iStr te σ H R := k
theorem k_srcS {R : It → Hp → Prop} {z : Str} (k : ∀ J, Trn K [] J (chS z) Ho → R J H) : SrcS R (.str z) H := ⟨z, rfl, k _ trn_str⟩
def hasS (j i : Str) : Bool := !(Builtin.Str.occurrences j i 0 j.length 1).isEmpty
def rInStr : R2 := fun x y H Q => ∃ i j, x = .str i ∧ y = .str j ∧ Q (.bl (!(Builtin.Str.occurrences j i 0 j.length 1).isEmpty)) H
def rNotinStr : R2 := fun x y H Q => ∃ i j, x = .str i ∧ y = .str j ∧ Q (.bl (!(!(Builtin.Str.occurrences j i 0 j.length 1).isEmpty))) H
theorem zop_inStr : OpR X (compareOp .In) rInStr := op_in_str
theorem zop_notinStr : OpR X (compareOp .NotIn) rNotinStr := op_notin_str
theorem y_inStr {i j : Str} (k : Q (.bl (hasS j i)) H) : rInStr (.str i) (.str j) H Q := ⟨i, j, rfl, rfl, k⟩
theorem y_notinStr {i j : Str} (k : Q (.bl (!hasS j i)) H) : rNotinStr (.str i) (.str j) H Q := ⟨i, j, rfl, rfl, k⟩
/-- the sign at a place -/
def chr (z : Str) (i : Int) : W Str := W.guard (z.length ≤ sizeLine) (W.bind (W.opt (atI z.cps.toList i)) fun c => W.ret (⟨#[c]⟩ : Str))
theorem y_ixStr {z : Str} {i : Int} {f : Str → W γ} (hw : (W.bind (chr z i) f).run Φ) (k : ∀ t, (f t).run Φ → Q (.str t) H) : rIxS (.str z) (.int i) H Q := by
  obtain ⟨hl, c, hc, hw⟩ := hw
  exact ⟨z, i, c, rfl, rfl, hl, hc, k _ hw⟩
def rLenS : List V → Hp → VK → Prop := fun xs H Q => ∃ y : Str, xs = [.str y] ∧ y.length ≤ sizeLine ∧ Q (.int (y.length : Nat)) H
theorem zlenS : CallR X (.builtin "len") rLenS := by
  intro pins s σ H xs us Q I r h
  obtain ⟨y, e, hl, q⟩ := h
  exact call_len pins s σ H xs us Q I r ⟨.str y, y.length, e, ⟨hl, rfl⟩, q⟩
theorem y_lenStr {y : Str} (hg : y.length ≤ sizeLine) (k : Q (.int (y.length : Int)) H) : rLenS [.str y] H Q := ⟨y, rfl, hg, k⟩
def rSplit : V → List V → Hp → VK → Prop := fun x xs H Q => ∃ a b, x = .str a ∧ xs = [.str b] ∧ (b.length == 0) = false ∧ a.length + 2 ≤ sizeLine ∧ rNewStrs (Txt.split a b) H Q
theorem zmt_split : MtR X "str.split" rSplit := mt_split
def SplG (a b : Str) : Prop := (b.length == 0) = false ∧ a.length + 2 ≤ sizeLine
theorem strs_dl : ∀ {xs : List Str}, DL K H (xs.map V.str) xs
  | [] => .nil
  | x :: xs => .cons (.str x) strs_dl
theorem y_split {a b : Str} (z : Zs R H Ho) (hg : SplG a b) (k : ∀ H' p ws, Zs ((p, .lst ws) :: R) H' Ho → DL K Ho ws (Txt.split a b) → Q (.ref p) H') : rSplit (.str a) [.str b] H Q :=
  ⟨a, b, rfl, rfl, hg.1, hg.2, fun p hp => k _ p _ (z.root hp) strs_dl⟩
def rIntS : List V → Hp → VK → Prop := fun xs H Q => ∃ a n, xs = [.str a] ∧ PySem.intText? a = some n ∧ a.length ≤ 640 ∧ Q (.int n) H
theorem zintS : CallR X (.type "int") rIntS := call_int_str
/-- int(text) -/
def intS (a : Str) : W Int := W.guard (a.length ≤ 640) (W.opt (PySem.intText? a))
theorem y_intS {a : Str} {f : Int → W γ} (hw : (W.bind (intS a) f).run Φ) (k : ∀ t, (f t).run Φ → Q (.int t) H) : rIntS [.str a] H Q := by
  obtain ⟨hl, n, hn, hw⟩ := hw
  exact ⟨a, n, rfl, hn, hl, k _ hw⟩
end
end Z

/-! # a list of two is taken apart -/
namespace Z
open PySem PySem.Spec PyProof.Rows L2
section
variable {α γ : Type} [Py α] {K : PySem.W.Frag} {rs : List (Addr × HO)} {H Ho : Hp} {σ : L2.St} {Φ : γ → Prop}
def two {α : Type} : List α → Option (α × α)
  | [a, b] => some (a, b)
  | _ => none
theorem two_some {xs : List α} {p : α × α} (h : two xs = some p) : xs = [p.1, p.2] := by
  match xs, h with
  | [a, b], h => cases h; rfl
theorem zpg_unl {X : Cx} {es : List Expr} {k : Nat} {t : TGs} {n : Nat} {pos : Pos} (hK : X.K = K) (hc : X.calm = true) (h : PGs X es t)
    (hn : (assignEach es X.env).length = n := by rfl) (hst : (assignEach es X.env).findIdx? (·.1) = none := by rfl) : PG X (.Tuple es k pos) (gUnl K n t) := hK ▸ pg_unl hc h hn hst
theorem c_unl2 {i j : Nat} {x : V} {QS : L2.St → Hp → Prop} {xs : List α} {f : α × α → W γ} (hw : (W.bind (W.opt (two xs)) f).run Φ) (σ' : V → V → L2.St) (hσ : ∀ v u, (σ.set i (some v)).set j (some u) = σ' v u) (d : LV K rs Ho x xs) (z : Zs rs H Ho)
    (k : ∀ a b v u, D K Ho v a → D K Ho u b → (f (a, b)).run Φ → QS (σ' v u) H) : gUnl K 2 (gCons (gName i) (gCons (gName j) gNil)) x σ H QS := by
  obtain ⟨p, e, hf⟩ := hw
  have ex := two_some e
  subst ex
  obtain ⟨q, vs, rfl, d, s⟩ := LV.rd d z
  cases d with
  | cons h1 h2 =>
    cases h2 with
    | cons h2 h3 =>
      cases h3
      exact ⟨_, _, rfl, s, rfl, _, _, rfl, _, _, rfl, rfl, by rw [hσ]; exact k _ _ _ _ h1 h2 hf⟩
end
end Z

/-! # data of any kind: items, lengths, kinds -/
namespace Z
open PySem PySem.Spec PyProof.Rows L2
theorem IxR.or {X : Cx} {r r' : R2} (h : IxR X r) (h' : IxR X r') : IxR X (fun x y H Q => r x y H Q ∨ r' x y H Q) := by
  intro value slice pins s σ H x y v u Q I rx ry q hs
  rcases q with q | q
  · exact h _ _ _ _ _ _ _ _ _ _ _ I rx ry q hs
  · exact h' _ _ _ _ _ _ _ _ _ _ _ I rx ry q hs
section
variable {α β γ : Type} [Py α] {K : PySem.W.Frag} {rs : List (Addr × HO)} {H Ho : Hp} {σ : L2.St} {Φ : γ → Prop} {Q : VK} {v : V}
def rIxA (K : PySem.W.Frag) : R2 := fun x y H Q => rIxL K x y H Q ∨ rIxT K x y H Q
theorem zix_any {X : Cx} (hK : X.K = K) : IxR X (rIxA K) := (zix_list hK).or (zix_tup hK)
/-- the item of a list or a tuple -/
def pyIx : PyData → Int → Option PyData
  | .list xs, i => atI xs i
  | .tuple xs, i => atI xs i
  | _, _ => none
def pyLen : PyData → Option Int
  | .list xs => some (xs.length : Int)
  | .tuple xs => some (xs.length : Int)
  | _ => none
theorem atI_dqG {H : Hp} {vs : List V} {ds : List PyData} {i : Int} {d : PyData} (h : DqAll K H vs ds) (e : atI ds i = some d) : ∃ v, atI vs i = some v ∧ Dq K H v d := by
  unfold atI at e ⊢
  have hl := dpAll_len h
  rw [hl]
  cases q : ixN ds.length i with
  | none => rw [q] at e; cases e
  | some j =>
    rw [q] at e
    exact dpAll_get h e
theorem y_ixP {x : PyData} {i : Int} {f : PyData → W γ} (d : D K Ho v x) (z : Zs rs H Ho) (hw : (W.bind (W.opt (pyIx x i)) f).run Φ) (k : ∀ t w, D K Ho w t → (f t).run Φ → Q w H) : rIxA K v (.int i) H Q := by
  obtain ⟨a, ea, hw⟩ := hw
  have d : Dq K Ho v x := d
  cases d with
  | lst hs ha =>
    obtain ⟨w, ew, dw⟩ := atI_dqG ha ea
    exact .inl ⟨_, _, i, w, rfl, rfl, z.le.seq hs, ew, k a w dw hw⟩
  | tup hs ha =>
    obtain ⟨w, ew, dw⟩ := atI_dqG ha ea
    exact .inr ⟨_, _, i, w, rfl, rfl, SqT.of (z.le _ _ hs), ew, k a w dw hw⟩
  | non => cases ea
  | bl _ => cases ea
  | int _ => cases ea
  | str _ => cases ea
  | ins _ _ _ => cases ea
theorem y_lenP {x : PyData} {f : Int → W γ} (d : D K Ho v x) (z : Zs rs H Ho) (hw : (W.bind (W.opt (pyLen x)) f).run Φ) (k : ∀ t, (f t).run Φ → Q (.int t) H) : rLenZ K [v] H Q := by
  obtain ⟨a, ea, hw⟩ := hw
  have d : Dq K Ho v x := d
  cases d with
  | lst hs ha =>
    cases ea
    refine ⟨_, _, rfl, .inl (z.le.seq hs), ?_⟩
    rw [dpAll_len ha]
    exact k _ hw
  | tup hs ha =>
    cases ea
    refine ⟨_, _, rfl, .inr (SqT.of (z.le _ _ hs)), ?_⟩
    rw [dpAll_len ha]
    exact k _ hw
  | non => cases ea
  | bl _ => cases ea
  | int _ => cases ea
  | str _ => cases ea
  | ins _ _ _ => cases ea
/-! isinstance(x, (T1, T2)) -/
theorem zisiT {X : Cx} (hK : X.K = K) : CallR X (.builtin "isinstance") (rIsiT K) := hK ▸ call_isiT
def allK : List String := ["NoneType", "bool", "int", "str", "list", "tuple", "dict"]
def IsiK (T : String) : Prop := (allK.all fun k => (kitB k T).isSome) = true
theorem tyx_py {x : PyData} (d : Dq K H v x) (hg : okP x) : TyX K H v (.type (pyK x)) := by
  cases d with
  | ins _ _ _ => exact absurd rfl (hg _)
  | non => exact .base .non
  | bl b => exact .base (.bl _)
  | int i => exact .base (.int _)
  | str s => exact .base (.str _)
  | lst hs _ => exact tyx_list hs
  | tup hs _ => exact tyx_tup (SqT.of hs)
theorem isP_kit {x : PyData} {T : String} (h : IsiK T) : PySem.W.kitOne K (.type (pyK x)) (.type T) = some (isP x T) := by
  have hs : (kitB (pyK x) T).isSome = true := by
    refine (List.all_eq_true.mp h) _ ?_
    cases x <;> simp [pyK, allK]
  obtain ⟨b, hb⟩ := Option.isSome_iff_exists.mp hs
  have e : isP x T = b := by unfold isP; rw [hb]; rfl
  rw [e]
  exact kit_ty hb
theorem y_isPT2 {x : α} {p : Addr} {S T : String} (d : D K H v x) (hg : okP (toPy x)) (hp : H p = some (.tup [.ty S, .ty T])) (h1 : IsiK S) (h2 : IsiK T) (k : Q (.bl (isP (toPy x) S || (isP (toPy x) T || false))) H) : rIsiT K [v, .ref p] H Q :=
  ⟨v, p, _, .type (pyK (toPy x)), [.type S, .type T], _, rfl, hp, .cons (.ty S) (.cons (.ty T) .nil), tyx_py d hg, kitAny_or (isP_kit h1) (kitAny_or (isP_kit h2) kitAny_nil), k⟩
/-! data of a kind that is wanted -/
class Fr (α : Type) [Py α] where
  fr : PyData → Option α
  ok : ∀ d a, fr d = some a → d = toPy a
instance : Fr Int := ⟨fun d => match d with | .int i => some i | _ => none, fun d a h => by cases d <;> first | (cases h; rfl) | (cases h)⟩
instance : Fr Str := ⟨fun d => match d with | .str i => some i | _ => none, fun d a h => by cases d <;> first | (cases h; rfl) | (cases h)⟩
instance : Fr Bool := ⟨fun d => match d with | .bool i => some i | _ => none, fun d a h => by cases d <;> first | (cases h; rfl) | (cases h)⟩
def frAll (β : Type) [Py β] [Fr β] : List PyData → Option (List β)
  | [] => some []
  | d :: ds => match (Fr.fr d : Option β), frAll β ds with
    | some a, some as => some (a :: as)
    | _, _ => none
theorem frAll_ok {β : Type} [Py β] [Fr β] : ∀ {ds : List PyData} {as : List β}, frAll β ds = some as → ds = as.map Py.toPy
  | [], as, h => by cases h; rfl
  | d :: ds, as, h => by
    unfold frAll at h
    split at h
    · rename_i a as' e1 e2
      cases h
      rw [List.map_cons, ← frAll_ok e2, Fr.ok d a e1]
    · cases h
instance {β : Type} [Py β] [Fr β] : Fr (List β) := ⟨fun d => match d with | .list xs => frAll β xs | _ => none, fun d a h => by
  cases d <;> first | (cases h; done) | skip
  rename_i xs
  show PyData.list xs = .list (a.map Py.toPy)
  rw [frAll_ok (show frAll β xs = some a from h)]⟩
instance {β β' : Type} [Py β] [Fr β] [Py β'] [Fr β'] : Fr (β × β') := ⟨fun d => match d with
  | .tuple [x, y] => match (Fr.fr x : Option β), (Fr.fr y : Option β') with
    | some a, some b => some (a, b)
    | _, _ => none
  | _ => none, fun d p h => by
  split at h
  · rename_i x y
    split at h
    · rename_i a b e1 e2
      cases h
      rw [Fr.ok _ _ e1, Fr.ok _ _ e2]; rfl
    · cases h
  · cases h⟩
instance {β β' β'' : Type} [Py β] [Fr β] [Py β'] [Fr β'] [Py β''] [Fr β''] : Fr (P3 β β' β'') := ⟨fun d => match d with
  | .tuple [x, y, z] => match (Fr.fr x : Option β), (Fr.fr y : Option β'), (Fr.fr z : Option β'') with
    | some a, some b, some c => some ⟨a, b, c⟩
    | _, _, _ => none
  | _ => none, fun d p h => by
  split at h
  · rename_i x y z
    split at h
    · rename_i a b c e1 e2 e3
      cases h
      rw [Fr.ok _ _ e1, Fr.ok _ _ e2, Fr.ok _ _ e3]; rfl
    · cases h
  · cases h⟩
instance {β β' β'' γ' : Type} [Py β] [Fr β] [Py β'] [Fr β'] [Py β''] [Fr β''] [Py γ'] [Fr γ'] : Fr (P4 β β' β'' γ') := ⟨fun d => match d with
  | .tuple [x, y, z, u] => match (Fr.fr x : Option β), (Fr.fr y : Option β'), (Fr.fr z : Option β''), (Fr.fr u : Option γ') with
    | some a, some b, some c, some e => some ⟨a, b, c, e⟩
    | _, _, _, _ => none
  | _ => none, fun d p h => by
  split at h
  · rename_i x y z u
    split at h
    · rename_i a b c e e1 e2 e3 e4
      cases h
      rw [Fr.ok _ _ e1, Fr.ok _ _ e2, Fr.ok _ _ e3, Fr.ok _ _ e4]; rfl
    · cases h
  · cases h⟩
theorem y_fr {β : Type} [Py β] [Fr β] {x : PyData} {P : Prop} {f : β → W γ} (d : D K Ho v x) (hw : (W.bind (W.opt (Fr.fr x : Option β)) f).run Φ) (k : ∀ t, D K Ho v t → (f t).run Φ → P) : P := by
  obtain ⟨a, ea, hw⟩ := hw
  refine k a ?_ hw
  have e := Fr.ok x a ea
  show Dq K Ho v (toPy a)
  rw [← e]
  exact d
end
/-! xs.extend(ys), ys as it stands -/
theorem list_extendW (l : Addr) (items : Array Value) (n : Nat) (b : Addr) (items2 : Array Value) (n2 : Nat) (dd2 : Option Addr) (sl2 : Array (Option Value)) (hc0 : ¬(!items.isEmpty && Builtin.List.listTooLong (items.size + items2.size)) = true) (hc1 : items.size ≤ sizeLine) (hs2 : items.size + items2.size ≤ sizeLine + 1 := by seq_fits) :
    Meets (Builtin.«list.extend» ⟨[.ref l, .ref b], []⟩) (fun _ R s => s.heap.get? l = some { cls := .type "list", dict := none, data := .seq items n, slots := #[] } ∧ s.heap.get? b = some { cls := .type "list", dict := dd2, data := .seq items2 n2, slots := sl2 } ∧ R (.ok (.ret Value.none)) { s with heap := s.heap.update l (Obj.mapSeq fun x => x ++ items2), toks := s.toks }) :=
  .of_wp fun prog w A R s h => by
    obtain ⟨hp, g, d, tk, os⟩ := s; obtain ⟨hl, hb, h⟩ := h; have f1 := AutoSeq1.idx_int; have f2 := AutoSeq1.sub_tuple_tuple; have f3 := AutoSeq1.sub_list_list; have f4 := AutoSeq1.sub_tuple_list; have f5 := AutoSeq1.sub_list_tuple;
    have hz' : (items ++ items2).size ≤ sizeLine + 1 := by rw [Array.size_append]; exact hs2
    wp_walk using (wpAny_updateSeq hl rfl (hz := hc1) (_hz' := hz')), AutoSeq1.wpAny_loadPart' hl, AutoSeq1.wpAny_loadPart' hb; exact ⟨_, rfl, h⟩
def rExtendS (K : PySem.W.Frag) : V → List V → Hp → VK → Prop := fun x vs H Q => ∃ l b xs zs, x = .ref l ∧ vs = [.ref b] ∧ H l = some (.lst xs) ∧ SqL K H b zs ∧ xs.length + zs.length ≤ sizeLine ∧ Q .non (upd H l (.lst (xs ++ zs)))
theorem mt_extendS {X : Cx} : MtM X "list.extend" (rExtendS X.K) := by
  intro pins s σ H x vs v us Q I rx rv h
  obtain ⟨l, b, xs, zs, rfl, rfl, hH, hB, hz, q⟩ := h
  cases rx
  obtain ⟨u, rfl, ru⟩ := rv.one
  cases ru
  obtain ⟨z, its, n, r, hl, e⟩ := I.lstM hH
  obtain ⟨its2, r2, pl2, _⟩ := I.list hB
  have hl2 := r2.length
  obtain ⟨⟨cls2, dd2, data2, sl2⟩, ho2, hc2, n2, hd2⟩ := pl2.isList
  simp only at hc2 hd2
  subst hc2 hd2
  have hsz : its.toArray.size + its2.toArray.size ≤ sizeLine := by rw [List.size_toArray, List.size_toArray]; omega
  have hlong : ¬ (!its.toArray.isEmpty && Builtin.List.listTooLong (its.toArray.size + its2.toArray.size)) = true := by
    rw [notLongL hsz, Bool.and_false]
    exact Bool.false_ne_true
  refine call_meets F.slot_list_extend ⟨_, e, rfl⟩ F.entry_list_extend (F.args_list_extend_2 _ _)
    (list_extendW l its.toArray n b its2.toArray n2 dd2 sl2 hlong (by rw [List.size_toArray]; omega) (by omega)) ⟨e, ho2, ?_⟩
  refine ⟨.non, _, I.lset (its' := its ++ its2) hH e (by simp) (r.append r2) ?_, rfl, q⟩
  rw [List.length_append]
  omega
theorem zmt_extendS {X : Cx} {K : PySem.W.Frag} (hK : X.K = K) : MtM X "list.extend" (rExtendS K) := hK ▸ mt_extendS
section
variable {α γ : Type} [Py α] {K : PySem.W.Frag} {R : Grp} {H Ho : Hp} {Φ : γ → Prop} {Q : VK} {v w : V}
theorem g_extD {xs ys : List α} {g : Grp} {f : List α → W γ} (z : Zs (g ++ R) H Ho) (o : OL K Ho v xs g) (o2 : LV K (g ++ R) Ho w ys) (hw : (W.bind (exd xs ys) f).run Φ) (k : ∀ xs' g' H', Zs (g' ++ R) H' Ho → OL K Ho v xs' g' → (f xs').run Φ → Q .non H') : rExtendS K v [w] H Q := by
  obtain ⟨p, vs, rfl, d, rfl⟩ := o
  obtain ⟨q, us, rfl, d2, s2⟩ := LV.rd o2 z
  exact ⟨p, q, vs, us, rfl, rfl, z.head, s2, by rw [DL.len d, DL.len d2]; exact hw.1, k _ _ _ z.put ⟨p, _, rfl, d.append d2, rfl⟩ hw.2⟩
end
end Z

/-! # objects: their fields, their methods, how they are made -/
namespace Z
open PySem PySem.Spec PyProof.Rows L2
/-! fields by their places -/
theorem lk_zip : ∀ {ns : List Str} {vs : List V} {i : Nat} {f : Str} {v : V}, ns.Nodup → ns[i]? = some f → vs[i]? = some v → (ns.zip vs).lookup f = some v
  | [], _, _, _, _, _, h, _ => by cases h
  | _ :: _, [], _, _, _, _, _, h => by cases h
  | n :: ns, w :: vs, 0, f, v, _, h1, h2 => by
    cases h1
    cases h2
    rw [List.zip_cons_cons, List.lookup_cons, beq_self_eq_true]
  | n :: ns, w :: vs, i + 1, f, v, hn, h1, h2 => by
    have hm : f ∈ ns := List.mem_of_getElem? (show ns[i]? = some f from h1)
    have ne : f ≠ n := fun e => (List.nodup_cons.mp hn).1 (e ▸ hm)
    rw [List.zip_cons_cons, List.lookup_cons, beq_eq_false_iff_ne.mpr ne]
    exact lk_zip (List.nodup_cons.mp hn).2 h1 h2
theorem lk_none : ∀ {ns : List Str} {vs : List V} {f : Str}, f ∉ ns → (ns.zip vs).lookup f = none
  | [], _, _, _ => rfl
  | _ :: _, [], _, _ => rfl
  | n :: ns, w :: vs, f, h => by
    have ne : f ≠ n := fun e => h (by rw [e]; exact List.mem_cons_self)
    rw [List.zip_cons_cons, List.lookup_cons, beq_eq_false_iff_ne.mpr ne]
    exact lk_none fun m => h (List.mem_cons_of_mem _ m)
theorem put_zip : ∀ {ns : List Str} {vs : List V} {i : Nat} {f : Str} {v : V}, ns.Nodup → ns[i]? = some f → i < vs.length → putF f v (ns.zip vs) = ns.zip (vs.set i v)
  | [], _, _, _, _, _, h, _ => by cases h
  | _ :: _, [], _, _, _, _, _, h => by simp at h
  | n :: ns, w :: vs, 0, f, v, _, h1, _ => by
    cases h1
    show (if n = n then _ else _) = _
    rw [if_pos rfl]; rfl
  | n :: ns, w :: vs, i + 1, f, v, hn, h1, h2 => by
    have hm : f ∈ ns := List.mem_of_getElem? (show ns[i]? = some f from h1)
    have ne : ¬ n = f := fun e => (List.nodup_cons.mp hn).1 (e ▸ hm)
    show (if n = f then _ else (n, w) :: putF f v (ns.zip vs)) = (n, w) :: ns.zip (vs.set i v)
    rw [if_neg ne, put_zip (List.nodup_cons.mp hn).2 h1 (by simpa using h2)]
theorem put_new : ∀ {ns : List Str} {vs : List V} {f : Str} {v : V}, ns.Nodup → ns[vs.length]? = some f → putF f v (ns.zip vs) = ns.zip (vs ++ [v])
  | [], _, _, _, _, h => by simp at h
  | n :: ns, [], f, v, _, h => by
    cases h
    show [(n, v)] = _
    simp
  | n :: ns, w :: vs, f, v, hn, h => by
    have h : ns[vs.length]? = some f := h
    have hm : f ∈ ns := List.mem_of_getElem? h
    have ne : ¬ n = f := fun e => (List.nodup_cons.mp hn).1 (e ▸ hm)
    show (if n = f then _ else (n, w) :: putF f v (ns.zip vs)) = (n, w) :: ns.zip (vs ++ [v])
    rw [if_neg ne, put_new (List.nodup_cons.mp hn).2 h]
/-- a class of the text -/
structure CF (K : PySem.W.Frag) (q : Addr) (cn : Str) (ns : List Str) : Prop where
  at_ : PySem.W.nsIn K mainGlobals cn = some (some (.ref q))
  cl : Cls K q
  na : ∀ f ∈ ns, NoAttr K q f
  nd : ns.Nodup
  few : ns.length < 1000
theorem CF.eq {K : PySem.W.Frag} {q C : Addr} {cn : Str} {ns : List Str} (c : CF K q cn ns) (h : PySem.W.nsIn K mainGlobals cn = some (some (.ref C))) : q = C := by
  have e := c.at_.symm.trans h
  cases e
  rfl
theorem rowG_app {gs : List Grp} {R : Grp} : rowG gs [] ++ R = rowG gs R := by rw [rowG_eq, rowG_eq, List.append_nil]
def FldK (K : PySem.W.Frag) (Q : VK) (f : Str) (x : V) (H : Hp) : Prop := ∃ a C dx fs v, x = .ref a ∧ H a = some (.ins C dx fs) ∧ Cls K C ∧ NoAttr K C f ∧ fs.lookup f = some v ∧ Q v H
def SFldK (K : PySem.W.Frag) (N : Hp → Prop) (f : Str) (y x : V) (H : Hp) : Prop := ∃ a C dx fs, x = .ref a ∧ H a = some (.ins C dx fs) ∧ Cls K C ∧ NoAttr K C f ∧ fs.length < 1000 ∧ N (upd H a (.ins C dx (putF f y fs)))
def MetK (C : Addr) (m : Str) (G : V → Hp → Prop) (x : V) (H : Hp) : Prop := ∃ a dx fs, x = .ref a ∧ H a = some (.ins C dx fs) ∧ fs.lookup m = none ∧ G x H
def MkK (C : Addr) (G : V → Hp → Prop) (H : Hp) : Prop := ∀ x dx, H x = none → H dx = none → dx ≠ x → G (.ref x) (upd (upd H dx (.own x)) x (.ins C dx []))
def tMethS (C : Addr) (m : Str) (sp : Sp) (E : L2.St → XK) (ta : TE) (t : TA) : TE := fun σ H Q => ta σ H fun x H1 => MetK C m (fun x H1 => t σ H1 fun vs H2 => sp (x :: vs) H2 Q (E σ)) x H1
def tMakeS (C : Addr) (sp : Sp) (E : L2.St → XK) (t : TA) : TE := fun σ H Q => t σ H fun vs H1 => MkK C (fun x H2 => sp (x :: vs) H2 (fun v H3 => v = .non ∧ Q x H3) (E σ)) H1
section
variable {X : Cx} {CX : CXT} {k : Nat} {f C : Addr} {fd : FuncData} {ps : List Str} {sp : Sp} {E : L2.St → XK} {x m : Str} {p pos apos : Pos} {e o : Expr} {es : List Expr} {ta : TE} {t : TA}
theorem passAt0 {σ : L2.St} : PassesAt CX0 X σ (E σ) := fun pins H s e s' I c => pass0 pins σ H s e s' I c
theorem pe_methS' {pl : Sem Bool} (he : PE X o ta) (c : Cls X.K C) (hm : Meth X.K C m f) (F : FnOk X.prog X.w X.K X.mg X.base CX k f fd ps sp) (hr : Room k X.A) (hb : Binds X.K fd ps []) (hx : ∀ σ, PassesAt CX X σ (E σ)) (ha : PA X (e :: es) t)
    (hst : starEach (e :: es) X.env = (false, eval e X.env) :: starEach es X.env := by rfl) (hpl : (backTo pos (starEach es X.env)).any (·.1) = false := by rfl)
    (ht : eval (.Call (.Attribute o m apos) (e :: es) [] pos) X.env = (do
      let ov ← eval o X.env
      standAt apos.atName
      let (f, first) ← holding [ov] (getMethod ov m pl)
      callWith pos f first (backTo pos (starEach (e :: es) X.env)) (backToKw pos (keywordEach [] X.env))) := by rfl) :
    PE X (.Call (.Attribute o m apos) (e :: es) [] pos) (tMethS C m sp E ta t) := by
  refine ⟨fun pins s σ H Q I h => ?_⟩
  refine PySem.W.methodCall_KW (pl := pl) (thn (he.run pins s σ H _ I h) fun u s1 ⟨x, H1, I1, rx, a, dx, fs, ex, ea, l, q⟩ => ?_) ht
  subst ex
  obtain rfl : u = Value.ref a := rx
  refine getmeth_ok I1 ea c hm l ?_
  refine PySem.W.callWith_K (first := [.ref a]) (h₀ := X.base) I.ok.mod.kin hm.kp (thn (ha.run pos pins s1 σ H1 _ I1 q) fun us s2 ⟨vs, H2, I2, r, q2⟩ => ⟨I2.kIn, ?_⟩) hst hpl
  exact run_fnS (us := .ref a :: us) (vs := .ref a :: vs) F hr hb (hx σ) I2 (.cons rfl r) q2
theorem pe_methS0' {pl : Sem Bool} (he : PE X o ta) (c : Cls X.K C) (hm : Meth X.K C m f) (F : FnOk X.prog X.w X.K X.mg X.base CX k f fd ps sp) (hr : Room k X.A) (hb : Binds X.K fd ps []) (hx : ∀ σ, PassesAt CX X σ (E σ))
    (ht : eval (.Call (.Attribute o m apos) [] [] pos) X.env = (do
      let ov ← eval o X.env
      standAt apos.atName
      let (f, first) ← holding [ov] (getMethod ov m pl)
      callWith pos f first (backTo pos (starEach [] X.env)) (backToKw pos (keywordEach [] X.env))) := by rfl) :
    PE X (.Call (.Attribute o m apos) [] [] pos) (tMethS C m sp E ta tNil) := by
  refine ⟨fun pins s σ H Q I h => ?_⟩
  refine PySem.W.methodCall_KW (pl := pl) (thn (he.run pins s σ H _ I h) fun u s1 ⟨x, H1, I1, rx, a, dx, fs, ex, ea, l, q⟩ => ?_) ht
  subst ex
  obtain rfl : u = Value.ref a := rx
  refine getmeth_ok I1 ea c hm l ?_
  exact PySem.W.callWith_K0 (first := [.ref a]) I1.kIn hm.kp (run_fnS (us := [.ref a]) (vs := [.ref a]) F hr hb (hx σ) I1 (.cons rfl .nil) q)
theorem run_makeS {pins : List (Addr × Obj)} {σ : L2.St} {H : Hp} {s : Shared} {Q : VK} {us : List Value} {vs : List V} (M : Mk X.K C f) (F : FnOk X.prog X.w X.K X.mg X.base CX k f fd ps sp) (hr : Room (k + 1) X.A) (hb : Binds X.K fd ps [])
    (hx : PassesAt CX X σ (E σ)) (I : Inv X pins σ H s) (r : Vals vs us) (h : MkK C (fun x H2 => sp (x :: vs) H2 (fun v H3 => v = .non ∧ Q x H3) (E σ)) H) :
    wpAny (model X.prog X.w) X.A (call (.ref C) us) (EP X pins σ Q) X.xe s := by
  have hq := h (s.heap.objs.size + 1) s.heap.objs.size (I.hok.fresh (Nat.le_succ _)) (I.hok.fresh (Nat.le_refl _)) (Nat.ne_of_lt (Nat.lt_succ_self _))
  have I2 := Inv.made (C := C) I
  have r2 : Vals (V.ref (s.heap.objs.size + 1) :: vs) (Value.ref (s.heap.objs.size + 1) :: us) := .cons rfl r
  have hl : (Value.ref (s.heap.objs.size + 1) :: us ++ []).length = ps.length := by
    rw [List.append_nil]
    have e := r2.length
    rw [F.len _ _ _ _ hq] at e
    exact e.symm
  have hb' := hb _ (Value.ref (s.heap.objs.size + 1) :: us) I2.kIn hl
  rw [List.append_nil] at hb'
  refine wpAny_call (make_map (f := f) I.kIn M.makes M.init (beq_iff_eq.mp M.fn) (codeAny_mono (F.run _ X.stack _ _ ⟨Value.ref (s.heap.objs.size + 1) :: us, []⟩ (Value.ref (s.heap.objs.size + 1) :: us) _ _ (E σ) (hr.make C us [])
    (I2.env0.make C us []) hb' r2 hq) fun r s' hq' => ?_))
  cases r with
  | error e => exact hx pins _ _ e s' I2 hq'
  | ok fl =>
    cases fl with
    | ret u =>
      obtain ⟨v, H', I3, rv, ev, q3⟩ := I2.after hq'
      subst ev
      exact ⟨rv, ⟨V.ref (s.heap.objs.size + 1), H', I3, rfl, q3⟩⟩
    | next => exact False.elim hq'
    | brk => exact False.elim hq'
    | cont => exact False.elim hq'
theorem pe_makeS (M : Mk X.K C f) (F : FnOk X.prog X.w X.K X.mg X.base CX k f fd ps sp) (hr : Room (k + 1) X.A) (hg : Gl X x) (hm : X.mg x = some (.ref C)) (hb : Binds X.K fd ps []) (hx : ∀ σ, PassesAt CX X σ (E σ))
    (ha : PA X (e :: es) t) (hdb : (x == ("__debug__" : Str)) = false := by decide) (he : starEach (e :: es) X.env = (false, eval e X.env) :: starEach es X.env := by rfl) (hpl : (backTo pos (starEach es X.env)).any (·.1) = false := by rfl) :
    PE X (.Call (.Name x p) (e :: es) [] pos) (tMakeS C sp E t) := by
  refine ⟨fun pins s σ H Q I h => ?_⟩
  refine wpAny_Call_Name_kw (ld_glob I hg hm ?_ hdb)
  refine PySem.W.callWith_K (h₀ := X.base) I.ok.mod.kin M.kp (thn (ha.run pos pins s σ H _ I h) fun us s1 ⟨vs, H1, I1, r, q⟩ => ⟨I1.kIn, ?_⟩) he hpl
  exact run_makeS M F hr hb (hx σ) I1 r q
theorem pe_makeS0 (M : Mk X.K C f) (F : FnOk X.prog X.w X.K X.mg X.base CX k f fd ps sp) (hr : Room (k + 1) X.A) (hg : Gl X x) (hm : X.mg x = some (.ref C)) (hb : Binds X.K fd ps []) (hx : ∀ σ, PassesAt CX X σ (E σ))
    (hdb : (x == ("__debug__" : Str)) = false := by decide) : PE X (.Call (.Name x p) [] [] pos) (tMakeS C sp E tNil) := by
  refine ⟨fun pins s σ H Q I h => ?_⟩
  refine wpAny_Call_Name_kw (ld_glob I hg hm ?_ hdb)
  exact PySem.W.callWith_K0 I.kIn M.kp (run_makeS (us := []) M F hr hb (hx σ) I .nil h)
theorem zpe_fld {K : PySem.W.Frag} {fl : Str} (hK : X.K = K) (he : PE X e ta) (hb : attributeBase e fl X.env (eval e X.env) = eval e X.env) : PE X (.Attribute e fl pos) (tFld K ta fl) := hK ▸ pe_fld he hb
theorem zps_fld {K : PySem.W.Frag} {fl : Str} {value : Expr} {tv : TE} {pos' : Pos} (hK : X.K = K) (ha : PE X o ta) (hv : PE X value tv) (hs : swapsWith value (some (.Attribute o fl pos')) pos.line X.env = pure false) : PS X (.Assign [.Attribute o fl pos'] value pos) (sFld K ta tv fl) := hK ▸ ps_fld ha hv hs
end
section
variable {K : PySem.W.Frag} {rs R : Grp} {H Ho : Hp} {σ : L2.St} {Q : VK} {QH : Hp → Prop} {v y : V} {a dx q : Addr} {cn f m : Str} {ns : List Str} {vs : List V} {i : Nat} {ta tv : TE} {t : TA} {u : TS} {D : Ends} {C : Addr} {sp : Sp} {E : L2.St → XK} {G : V → Hp → Prop}
theorem y_fld (k : ta σ H fun x H1 => FldK K Q f x H1) : tFld K ta f σ H Q := k
theorem y_sfld (k : tv σ H fun y H1 => LetV (fun y => ta σ H1 fun x H2 => SFldK K (fun H3 => u D σ H3) f y x H2) y) : tSeq (sFld K ta tv f) u D σ H := k
theorem y_meth (k : ta σ H fun x H1 => MetK C m (fun x H1 => t σ H1 fun vs H2 => sp (x :: vs) H2 Q (E σ)) x H1) : tMethS C m sp E ta t σ H Q := k
theorem y_make (k : t σ H fun vs H1 => MkK C (fun x H2 => sp (x :: vs) H2 (fun v H3 => v = .non ∧ Q x H3) (E σ)) H1) : tMakeS C sp E t σ H Q := k
theorem o_fld (c : CF K q cn ns) (hm : ∀ r ∈ ([(a, HO.ins q dx (ns.zip vs))] : Grp), r ∈ rs) (z : Zs rs H Ho) (hn : ns[i]? = some f) (hv : vs[i]? = some v) (k : Q v H) : FldK K Q f (.ref a) H :=
  ⟨a, q, dx, _, v, rfl, (z.rt _ (hm _ List.mem_cons_self)).1, c.cl, c.na f (List.mem_of_getElem? hn), lk_zip c.nd hn hv, k⟩
/-- what an instance that stands for good is as data -/
def pyIns (cn : Str) (ns : List Str) (ds : List PyData) : PyData := .dict [(.str cn, .list (ns.map .str)), (.none, .tuple ds)]
theorem strs_inj : ∀ {ns ms : List Str}, ns.map PyData.str = ms.map PyData.str → ns = ms
  | [], [], _ => rfl
  | [], _ :: _, h => by cases h
  | _ :: _, [], h => by cases h
  | n :: ns, m :: ms, h => by
    rw [List.map_cons, List.map_cons] at h
    injection h with h1 h2
    injection h1 with h1
    rw [h1, strs_inj h2]
theorem dq_ins {d : PyData} {ds : List PyData} (h : Dq K Ho v d) (e : d = pyIns cn ns ds) : ∃ a C dx vs, v = .ref a ∧ PySem.W.nsIn K mainGlobals cn = some (some (.ref C)) ∧ Ho a = some (.ins C dx (ns.zip vs)) ∧ DqAll K Ho vs ds := by
  cases h with
  | @ins a dx C cn' ns' vs ds' hC hs hd =>
    unfold pyIns at e
    injection e with e
    injection e with e1 e2
    injection e1 with e3 e4
    injection e3 with e3
    injection e4 with e4
    injection e2 with e5 _
    injection e5 with _ e6
    injection e6 with e6
    have e7 := strs_inj e4
    subst e3 e7 e6
    exact ⟨a, C, dx, vs, rfl, hC, hs, hd⟩
  | _ => cases e
theorem o_fldD {α β : Type} [Py α] [Py β] {x : α} {w : β} {ds : List PyData} (c : CF K q cn ns) (d : Z.D K Ho v x) (hx : toPy x = pyIns cn ns ds) (z : Zs rs H Ho) (hn : ns[i]? = some f) (hd : ds[i]? = some (toPy w)) (k : ∀ u, Z.D K Ho u w → Q u H) : FldK K Q f v H := by
  obtain ⟨a, C, dx, vs, rfl, hC, hs, ha⟩ := dq_ins d hx
  obtain rfl := c.eq hC
  obtain ⟨u, hu, du⟩ := dpAll_get ha hd
  exact ⟨a, q, dx, _, u, rfl, z.le _ _ hs, c.cl, c.na f (List.mem_of_getElem? hn), lk_zip c.nd hn hu, k u du⟩
theorem len_zip_few {vs : List V} (c : CF K q cn ns) : (ns.zip vs).length < 1000 := by
  rw [List.length_zip]
  have := c.few
  omega
/-- a field gets a value -/
theorem o_sfld (c : CF K q cn ns) (z : Zs ([(a, HO.ins q dx (ns.zip vs))] ++ R) H Ho) (hn : ns[i]? = some f) (hi : i < vs.length) (k : ∀ H', Zs ([(a, HO.ins q dx (ns.zip (vs.set i y)))] ++ R) H' Ho → QH H') : SFldK K QH f y (.ref a) H :=
  ⟨a, q, dx, _, rfl, Zs.head z, c.cl, c.na f (List.mem_of_getElem? hn), len_zip_few c, by
    rw [put_zip c.nd hn hi]
    exact k _ (Zs.put z)⟩
theorem o_nfld (c : CF K q cn ns) (z : Zs ([(a, HO.ins q dx (ns.zip vs))] ++ R) H Ho) (hn : ns[vs.length]? = some f) (k : ∀ H', Zs ([(a, HO.ins q dx (ns.zip (vs ++ [y])))] ++ R) H' Ho → QH H') : SFldK K QH f y (.ref a) H :=
  ⟨a, q, dx, _, rfl, Zs.head z, c.cl, c.na f (List.mem_of_getElem? hn), len_zip_few c, by
    rw [put_new c.nd hn]
    exact k _ (Zs.put z)⟩
theorem o_met (hm : ∀ r ∈ ([(a, HO.ins q dx (ns.zip vs))] : Grp), r ∈ rs) (z : Zs rs H Ho) (hn : m ∉ ns) (k : G (.ref a) H) : MetK q m G (.ref a) H :=
  ⟨a, dx, _, rfl, (z.rt _ (hm _ List.mem_cons_self)).1, lk_none hn, k⟩
theorem o_mk (z : Zs rs H Ho) (k : ∀ a dx H' Ho', Same Ho Ho' → Zs ([(a, HO.ins C dx (ns.zip []))] ++ rs) H' Ho' → G (.ref a) H') : MkK C G H := fun x dx hx hd ne => by
  have e : Same Ho (upd Ho dx (.own x)) := Same.new (z.free hd)
  refine k x dx _ _ e ?_
  have z1 : Zs rs (upd H dx (.own x)) (upd Ho dx (.own x)) := z.alloc hd
  have hx' : (upd H dx (.own x)) x = none := by rw [upd_ne (fun e => ne e.symm)]; exact hx
  have z2 := z1.root (o := HO.ins C dx (ns.zip [])) hx'
  rw [List.zip_nil_right] at z2 ⊢
  exact z2
end
section
variable {β γ : Type} {R : Grp} {H Ho : Hp} {Φ : γ → Prop}
theorem h_nmG {P : β → Prop} {X : Prop} {e : β} {f : β → W γ} (hw : (W.bind (W.ret e) f).run Φ) (o : P e) (k : ∀ x, P x → (f x).run Φ → X) : X := k e o hw
theorem l_oG {P : V → β → Grp → Prop} {G : V → Prop} {v : V} {e : β} {g : Grp} {f : β → W γ} (hw : (W.bind (W.ret e) f).run Φ) (z : Zs (g ++ R) H Ho) (o : P v e g) (k : ∀ x v g, Zs (g ++ R) H Ho → P v x g → (f x).run Φ → G v) : LetV G v := k e v g z o hw
end
/-- a method that stands at f -/
structure MCal (P : Program) (w : World) (K : PySem.W.Frag) (mg : Str → Option Value) (base : Heap) (CX : CXT) (q : Addr) (m : Str) (ps : List Str) (k : Nat) (sp : Sp) (f : Addr) (fd : FuncData) : Prop where
  ok : FnOk P w K mg base CX k f fd ps sp
  me : Meth K q m f
  b : Binds K fd ps []
/-- a class's __init__ -/
structure KCal (P : Program) (w : World) (K : PySem.W.Frag) (mg : Str → Option Value) (base : Heap) (CX : CXT) (q : Addr) (cn : Str) (ps : List Str) (k : Nat) (sp : Sp) (f : Addr) (fd : FuncData) : Prop where
  ok : FnOk P w K mg base CX k f fd ps sp
  mk_ : Mk K q f
  g : mg cn = some (.ref q)
  b : Binds K fd ps []
end Z

/-! # objects whose class has its own len, str, ==; isinstance; a dict's copy -/
namespace NeX
open PySem PySem.Spec PyProof.Rows PySem.SeqAt PySem.W Builtin
section
variable {M : Model} {prog : Program} {w : World} {A : Around} {E : Value → Shared → Prop} {s : Shared} {K : PySem.W.Frag} {x y C f : Addr} {ox oy : Obj} {od od' : Option Obj}
theorem ifBound_objNe {args : List Value} {Q : Option Value → Shared → Prop} (X : K.In s.heap) (I : PySem.W.InstAt s.heap x ox C od) (hs : PySem.W.findIn K (.ref C) "__ne__" = some (some (.builtin "object.__ne__")))
    (h : wpAny M A (call (.builtin "object.__ne__") (.ref x :: args)) (fun v => Q (some v)) E s) : wpAny M A (callSpecialIfBound? (.ref x) "__ne__" args) Q E s := by
  simp only [callSpecialIfBound?, bindSpecialIfBound?]
  refine wpAny_holding (wpAny_bind (wpAny_bind (wpAny_bind (I.type.here ((PySem.W.looks_findIn X hs).here ?_)))))
  refine wpAny_bind (wpAny_askSetting (wpAny_ite ?_))
  have fin : wpAny M A (call (.builtin "object.__ne__") ([.ref x] ++ args) >>= fun v => pure (some v)) Q E s := wpAny_bind (wpAny_mono h (fun v s' h' => wpAny_pure h') fun _ _ h' => h')
  split
  · exact wpAny_bind (wpAny_of_eq (F.cmp_object.ne.bind _) (wpAny_pure (by exact fin)))
  · exact wpAny_tryCatch (wpAny_bind (wpAny_of_eq (F.cmp_object.ne.bind _) (wpAny_pure (by exact fin))))
theorem entry_ne {Q : Fin → Shared → Prop} (hu : A.units < cLine) (X : K.In s.heap) (I : PySem.W.InstAt s.heap x ox C od) (hs : PySem.W.findIn K (.ref C) "__eq__" = some (some (.ref f))) (hf : PySem.W.isFn K (.ref f) = true)
    (hcall : wpAny (model prog w) A (call (.ref f) [.ref x, .ref y]) (fun v s' => ∃ b, v = .bool b ∧ Q (.done (.ret (.bool (!b)))) s') E s) : wpAny (model prog w) A (Builtin.«object.__ne__» ⟨[.ref x, .ref y], []⟩) Q E s := by
  unfold Builtin.«object.__ne__»
  repeat (first
    | with_reducible refine wpAny_cRoomFor hu ?_
    | (refine wpAny_bind (m := callSpecialIfBound? (.ref x) (Str.ofString "__eq__") [.ref y])
        (PySem.W.ifBound_K X I hs hf (wpAny_mono hcall (fun r s' hr => by
          obtain ⟨b, rfl, hq⟩ := hr
          repeat (first | exact hq | exact wpAny_pure hq | exact wpAny_truthy_bool hq | (refine wpAny_bind (m := truthy (.bool _)) (wpAny_truthy_bool ?_)) | wp_step)) fun _ _ e => e)))
    | wp_step)
theorem ne_K {Q : Value → Shared → Prop} (hu : A.units < cLine) (hu1 : A.in1.units < cLine) (X : K.In s.heap) (I : PySem.W.InstAt s.heap x ox C od) (J : PySem.W.InstAt s.heap y oy C od')
    (hne : PySem.W.findIn K (.ref C) "__ne__" = some (some (.builtin "object.__ne__"))) (hm : PySem.W.mroIn K C (.type "object") = some true)
    (hs : PySem.W.findIn K (.ref C) "__eq__" = some (some (.ref f))) (hf : PySem.W.isFn K (.ref f) = true)
    (h : wpAny (model prog w) A.in1 (call (.ref f) [.ref x, .ref y]) (fun v s' => ∃ b, v = .bool b ∧ Q (.bool (!b)) s') E s) : wpAny (model prog w) A (richCompare .NotEq (.ref x) (.ref y)) Q E s := by
  have one : wpAny (model prog w) A (tryCompare (.ref x) "__ne__" (.ref y)) (fun r s' => ∃ b, r = some (.bool b) ∧ Q (.bool b) s') E s := by
    unfold tryCompare
    refine wpAny_bind (ifBound_objNe X I hne (wpAny_call (codeAny_call_builtin F.cmp_object.ne.plain F.cmpEntry_ne (PySem.W.check_slot F.cmpKind_ne F.cmpSplit_ne (I.type.andThen (PySem.W.looks_mroIn X hm)) (F.cmpArgs_ne _ _) (entry_ne hu1 X I hs hf (wpAny_mono h (fun v s' hv => ?_) fun _ _ e => e))))))
    obtain ⟨b, rfl, hq⟩ := hv
    first | exact ⟨b, rfl, wpAny_pure ⟨_, rfl, hq⟩⟩ | exact ⟨b, rfl, wpAny_pure (wpAny_pure ⟨_, rfl, hq⟩)⟩
  unfold richCompare
  simp only [oneThing_ref, cmpInfo_NotEq]
  refine wpAny_holding (wpAny_bind (wpAny_cRoomFor hu ?_))
  refine wpAny_bind (I.type.here (wpAny_bind (J.type.here ?_)))
  split
  · rename_i q
    exact absurd q (by simp)
  · refine wpAny_bind (wpAny_pure ?_)
    simp only [Bool.false_eq_true, if_false]
    refine wpAny_bind (wpAny_mono one (fun r s' z => ?_) fun _ _ e => e)
    obtain ⟨v, rfl, hq⟩ := z
    exact wpAny_pure hq
end
end NeX
namespace Z
open PySem PySem.Spec PyProof.Rows L2
section
variable {X : Cx} {pins : List (Addr × Obj)} {σ : L2.St} {H : Hp} {s : Shared} {C f : Addr} {fd : FuncData} {ps : List Str} {sp : Sp} {k : Nat}
theorem run_atS {A : Around} {E : XK} {Q : VK} {us : List Value} {vs : List V} (F : FnOk X.prog X.w X.K X.mg X.base CX0 k f fd ps sp) (hr : Room k A) (e0 : Env0 X.prog X.w X.K X.mg X.base A X.stack s H) (hb : Binds X.K fd ps []) (I : Inv X pins σ H s) (r : Vals vs us) (h : sp vs H Q E) :
    wpAny (model X.prog X.w) A (call (.ref f) us) (EP X pins σ Q) X.xe s := by
  have hl : us.length = ps.length := by rw [← r.length]; exact F.len _ _ _ _ h
  have b := hb s us I.kIn (by rw [List.append_nil]; exact hl)
  rw [List.append_nil] at b
  refine wpAny_call (codeAny_mono (F.run A X.stack s H ⟨us, []⟩ us vs Q E hr e0 b r h) fun r s' hq => ?_)
  cases r with
  | error e => exact pass0 pins σ H s e s' I hq
  | ok fl =>
    cases fl with
    | ret u => exact I.after hq
    | next => exact False.elim hq
    | brk => exact False.elim hq
    | cont => exact False.elim hq
def rLenO (C : Addr) (sp : Sp) : List V → Hp → VK → Prop := fun xs H Q => ∃ a dx fs, xs = [.ref a] ∧ H a = some (.ins C dx fs) ∧ sp [.ref a] H (fun z H' => ∃ n : Int, z = .int n ∧ 0 ≤ n ∧ n < 2 ^ 63 ∧ Q (.int n) H') E0
theorem call_lenO (hm : Meth X.K C "__len__" f) (F : FnOk X.prog X.w X.K X.mg X.base CX0 k f fd ps sp) (hr : Room (k + 1) X.A) (hb : Binds X.K fd ps []) : CallR X (.builtin "len") (rLenO C sp) := by
  intro pins s σ H xs us Q I r h
  obtain ⟨a, dx, fs, rfl, ha, q⟩ := h
  obtain ⟨u, rfl, ru⟩ := vals1 r
  cases (show u = Value.ref a from ru)
  obtain ⟨mA, J, _⟩ := ins_get I.hok ha
  obtain ⟨od, J, _⟩ := J.look
  obtain ⟨m, hF⟩ := I.fr
  refine PySem.W.len_K hF I.ok.mod.kin J hm.at_ hm.fn (wpAny_mono (run_atS (us := [.ref a]) (vs := [.ref a]) F hr.in1 I.env0.in1 hb I (.cons rfl .nil) q) (fun w s' z => ?_) fun _ _ x => x)
  obtain ⟨z', H', I', rz, n, en, n0, n1, qz⟩ := z
  subst en
  obtain ⟨t, e⟩ := (show ∃ t, w = Value.int n t from rz)
  cases e
  exact ⟨⟨n0, n1⟩, .int n, H', I'.tok _, ⟨_, rfl⟩, qz⟩
def rStrO (C : Addr) (sp : Sp) : List V → Hp → VK → Prop := fun xs H Q => ∃ a dx fs, xs = [.ref a] ∧ H a = some (.ins C dx fs) ∧ sp [.ref a] H (fun z H' => ∃ y : Str, z = .str y ∧ Q (.str y) H') E0
theorem call_strO (hm : Meth X.K C "__str__" f) (F : FnOk X.prog X.w X.K X.mg X.base CX0 k f fd ps sp) (hr : Room (k + 2) X.A) (hb : Binds X.K fd ps []) : CallR X (.type "str") (rStrO C sp) := by
  intro pins s σ H xs us Q I r h
  obtain ⟨a, dx, fs, rfl, ha, q⟩ := h
  obtain ⟨u, rfl, ru⟩ := vals1 r
  cases (show u = Value.ref a from ru)
  obtain ⟨mA, J, _⟩ := ins_get I.hok ha
  obtain ⟨od, J, _⟩ := J.look
  have hr2 : Room k X.A.in1.in1 := (show Room (k + 1) X.A.in1 from Room.in1 hr).in1
  refine PySem.W.kso_call hr2.units0 I.kIn J hm.at_ hm.fn (wpAny_mono (run_atS (us := [.ref a]) (vs := [.ref a]) F hr2 I.env0.in1.in1 hb I (.cons rfl .nil) q) (fun w s' z => ?_) fun _ _ x => x)
  obtain ⟨z', H', I', rz, y, en, qz⟩ := z
  subst en
  obtain ⟨t, e⟩ := (show ∃ t, w = Value.str y t from rz)
  cases e
  exact ⟨.str y, H', I', ⟨t, rfl⟩, qz⟩
def rEqO (C : Addr) (sp : Sp) : R2 := fun x y H Q => ∃ a b dx dy fs gs, x = .ref a ∧ y = .ref b ∧ H a = some (.ins C dx fs) ∧ H b = some (.ins C dy gs) ∧ sp [x, y] H Q E0
theorem op_eqO (hm : Meth X.K C "__eq__" f) (F : FnOk X.prog X.w X.K X.mg X.base CX0 k f fd ps sp) (hr : Room k X.A) (hb : Binds X.K fd ps []) : OpR X (compareOp .Eq) (rEqO C sp) := by
  intro pins s σ H x y v u Q I rx ry h
  obtain ⟨a, b, dx, dy, fs, gs, rfl, rfl, ha, hb', q⟩ := h
  cases (show v = Value.ref a from rx)
  cases (show u = Value.ref b from ry)
  obtain ⟨mA, J, _⟩ := ins_get I.hok ha
  obtain ⟨mB, J', _⟩ := ins_get I.hok hb'
  obtain ⟨od, J, _⟩ := J.look
  obtain ⟨od', J', _⟩ := J'.look
  obtain ⟨m, hF⟩ := I.fr
  show wpAny (model X.prog X.w) X.A (richCompare .Eq (.ref a) (.ref b)) (EP X pins σ Q) X.xe s
  refine PySem.W.cmp_K (op := .Eq) (tb := .ref C) hr.units0 hF I.ok.mod.kin J J'.type (by simp [PySem.W.notFirst]) hm.at_ hm.fn ?_
  refine wpAny_mono (run_atS (us := [.ref a, .ref b]) (vs := [.ref a, .ref b]) F hr I.env0 hb I (.cons rfl (.cons rfl .nil)) q) (fun w s' z => ?_) fun _ _ x => x
  obtain ⟨z', H', I', rz, qz⟩ := z
  exact SlX.cmpback rz ⟨z', H', I', rz, qz⟩
end
/-- what != asks of a class -/
structure NI (K : PySem.W.Frag) (q : Addr) : Prop where
  ne : PySem.W.findIn K (.ref q) "__ne__" = some (some (.builtin "object.__ne__"))
  mo : PySem.W.mroIn K q (.type "object") = some true
section
variable {X : Cx} {C f : Addr} {fd : FuncData} {ps : List Str} {sp : Sp} {k : Nat}
def rNeO (C : Addr) (sp : Sp) : R2 := fun x y H Q => ∃ a b dx dy fs gs, x = .ref a ∧ y = .ref b ∧ H a = some (.ins C dx fs) ∧ H b = some (.ins C dy gs) ∧ sp [x, y] H (fun z H' => ∃ t : Bool, z = .bl t ∧ Q (.bl (!t)) H') E0
theorem op_neO (ni : NI X.K C) (hm : Meth X.K C "__eq__" f) (F : FnOk X.prog X.w X.K X.mg X.base CX0 k f fd ps sp) (hr : Room (k + 1) X.A) (hb : Binds X.K fd ps []) : OpR X (compareOp .NotEq) (rNeO C sp) := by
  intro pins s σ H x y v u Q I rx ry h
  obtain ⟨a, b, dx, dy, fs, gs, rfl, rfl, ha, hb', q⟩ := h
  cases (show v = Value.ref a from rx)
  cases (show u = Value.ref b from ry)
  obtain ⟨mA, J, _⟩ := ins_get I.hok ha
  obtain ⟨mB, J', _⟩ := ins_get I.hok hb'
  obtain ⟨od, J, _⟩ := J.look
  obtain ⟨od', J', _⟩ := J'.look
  show wpAny (model X.prog X.w) X.A (richCompare .NotEq (.ref a) (.ref b)) (EP X pins σ Q) X.xe s
  refine NeX.ne_K hr.units0 hr.in1.units0 I.kIn J J' ni.ne ni.mo hm.at_ hm.fn (wpAny_mono (run_atS (us := [.ref a, .ref b]) (vs := [.ref a, .ref b]) F hr.in1 I.env0.in1 hb I (.cons rfl (.cons rfl .nil)) q) (fun w s' z => ?_) fun _ _ x => x)
  obtain ⟨z', H', I', rz, t, et, qz⟩ := z
  subst et
  cases (show w = Value.bool t from rz)
  exact ⟨t, rfl, .bl (!t), H', I', rfl, qz⟩
end
/-- what isinstance asks of a class -/
structure CI (K : PySem.W.Frag) (q : Addr) : Prop where
  ca : PySem.W.findIn K (.ref q) "__class__" = some (some (.builtin "object.__class__"))
  cn : PySem.W.specialIn K (.builtin "object.__class__") "__get__" = some (some (.builtin "getset_descriptor.__get__"))
  ct : PySem.W.takesIn K (.builtin "object.__class__") = some true
  cm : PySem.W.mroIn K q (.type "object") = some true
  kt : PySem.W.kitOne K (.ref q) (.ref q) = some true
section
variable {K : PySem.W.Frag} {H Ho : Hp} {R : Grp} {Q : VK} {C q : Addr} {v w : V} {sp : Sp} {m : Str} {cn : Str} {ns : List Str} {α : Type} [Py α]
theorem y_lenO (k : MetK C "__len__" (fun x H => sp [x] H (fun z H' => ∃ n : Int, z = .int n ∧ 0 ≤ n ∧ n < 2 ^ 63 ∧ Q (.int n) H') E0) v H) : rLenO C sp [v] H Q := by
  obtain ⟨a, dx, fs, rfl, h, _, k⟩ := k
  exact ⟨a, dx, fs, rfl, h, k⟩
theorem y_strO (k : MetK C "__str__" (fun x H => sp [x] H (fun z H' => ∃ y : Str, z = .str y ∧ Q (.str y) H') E0) v H) : rStrO C sp [v] H Q := by
  obtain ⟨a, dx, fs, rfl, h, _, k⟩ := k
  exact ⟨a, dx, fs, rfl, h, k⟩
theorem y_eqO (k : MetK C "__eq__" (fun x H => MetK C "__eq__" (fun y H => sp [x, y] H Q E0) w H) v H) : rEqO C sp v w H Q := by
  obtain ⟨a, dx, fs, rfl, h, _, k⟩ := k
  obtain ⟨b, dy, gs, rfl, h', _, k⟩ := k
  exact ⟨a, b, dx, dy, fs, gs, rfl, rfl, h, h', k⟩
theorem y_neO (k : MetK C "__eq__" (fun x H => MetK C "__eq__" (fun y H => sp [x, y] H (fun z H' => ∃ t : Bool, z = .bl t ∧ Q (.bl (!t)) H') E0) w H) v H) : rNeO C sp v w H Q := by
  obtain ⟨a, dx, fs, rfl, h, _, k⟩ := k
  obtain ⟨b, dy, gs, rfl, h', _, k⟩ := k
  exact ⟨a, b, dx, dy, fs, gs, rfl, rfl, h, h', k⟩
theorem y_isiO' (c : CF K q cn ns) (ci : CI K q) (k : MetK q "__eq__" (fun _ H => Q (.bl true) H) v H) : rIsi K [v, .ref q] H Q := by
  obtain ⟨a, dx, fs, rfl, h, _, k⟩ := k
  exact ⟨_, _, _, _, true, rfl, .own q, .base (.ins h c.cl ci.ca ci.cn ci.ct ci.cm), ci.kt, k⟩
theorem zstrS {X : Cx} : CallR X (.type "str") (fun xs H Q => ∃ a, xs = [.str a] ∧ Q (.str a) H) := SkE.call_str_str
theorem y_strS {y : Str} (k : Q (.str y) H) : (fun (xs : List V) (H : Hp) (Q : VK) => ∃ a, xs = [.str a] ∧ Q (.str a) H) [.str y] H Q := ⟨y, rfl, k⟩
def rDcp : List V → Hp → VK → Prop := fun xs H Q => ∃ (a : Addr) (kvs : List (Key × V)), xs = [.ref a] ∧ Rd H a (.dK kvs) ∧ ∀ p, H p = none → Q (.ref p) (upd H p (.dK kvs))
theorem zdcp {X : Cx} : CallR X (.type "dict") rDcp := call_dictD
theorem y_dcp {m : Dc Int α} (b : BD K R Ho v m) (z : Zs R H Ho) (k : ∀ p H' g, Zs (g ++ R) H' Ho → OD K Ho (.ref p) m g → Q (.ref p) H') : rDcp [v] H Q := by
  obtain ⟨p, kvs, rfl, d, h⟩ := b.rd z
  refine ⟨p, kvs, rfl, .of h, fun a ha => ?_⟩
  exact k a _ [(a, DKey.ho (κ := Int) kvs)] (z.root ha) ⟨a, kvs, rfl, d, rfl⟩
end
end Z

/-! # None, or a list of one's own -/
namespace Z
open PySem PySem.Spec PyProof.Rows L2
section
variable {K : PySem.W.Frag} {H Ho H' Ho' : Hp} {α β γ : Type} [Py α] [Py β] {Φ : γ → Prop} {R : Grp} {v w v0 v1 : V} {Q : VK} {p : Addr}
def OO (K : PySem.W.Frag) (Ho : Hp) (v : V) (o : Option (List α)) (g : Grp) : Prop := match o with
  | none => v = .non ∧ g = []
  | some xs => OL K Ho v xs g
theorem OO.mo {o : Option (List α)} {g : Grp} (h : OO K Ho v o g) (e : Same Ho Ho') : OO K Ho' v o g := by
  cases o with
  | none => exact h
  | some xs => exact OL.mo (show OL K Ho v xs g from h) e
theorem OO.non : OO K Ho .non (none : Option (List α)) [] := ⟨rfl, rfl⟩
theorem OO.some {xs : List α} {g : Grp} (h : OL K Ho v xs g) : OO K Ho v (some xs) g := h
theorem oo_dec {o : Option (List α)} {g : Grp} (h : OO K Ho v o g) : decide (v = .non) = o.isNone := by
  cases o with
  | none => rw [h.1]; rfl
  | some xs =>
    obtain ⟨q, vs, e, _⟩ := (show OL K Ho v xs g from h)
    rw [e]; rfl
theorem oo_open {o : Option (List α)} {g : Grp} {P : Prop} {f : List α → W γ} (h : OO K Ho v o g) (hw : (W.bind (W.opt o) f).run Φ) (k : ∀ xs, OL K Ho v xs g → (f xs).run Φ → P) : P := by
  obtain ⟨xs, e, hw⟩ := hw
  subst e
  exact k xs h hw
theorem ol_py {xs : List α} {g : Grp} (h : OL K Ho v xs g) : OL K Ho v (xs.map Py.toPy : List PyData) g := by
  obtain ⟨q, vs, e, d, eg⟩ := h
  refine ⟨q, vs, e, ?_, eg⟩
  show DqAll K Ho vs ((xs.map Py.toPy : List PyData).map Py.toPy)
  rw [List.map_map]
  exact d
theorem l_any {G : V → Prop} (k : G v) : LetV G v := k
theorem k_lst2 (z : Zs R H Ho) (k : ∀ p H', Zs ([(p, HO.lst [.non, v])] ++ R) H' Ho → Q (.ref p) H') : LstK Q [.non, v] H := ⟨by show 2 ≤ sizeLine; decide, fun p hp => k p _ (z.root hp)⟩
theorem y_ix2 {i : Int} {A B : W γ} (hm : ∀ r ∈ ([(p, HO.lst [v0, v1])] : Grp), r ∈ R) (z : Zs R H Ho) (hw : (W.guard (i = 0 ∨ i = 1) (W.ite (decide (i = 0)) A B)).run Φ) (k0 : A.run Φ → Q v0 H) (k1 : B.run Φ → Q v1 H) : rIxL K (.ref p) (.int i) H Q := by
  obtain ⟨hg, h0, h1⟩ := hw
  have sq : SqL K H p [v0, v1] := SqL.of (z.rt _ (hm _ List.mem_cons_self)).1
  rcases hg with rfl | rfl
  · exact ⟨p, [v0, v1], 0, v0, rfl, rfl, sq, rfl, k0 (h0 rfl)⟩
  · exact ⟨p, [v0, v1], 1, v1, rfl, rfl, sq, rfl, k1 (h1 rfl)⟩
/-- a name that is set by a loop's turn -/
def LateD (K : PySem.W.Frag) (Ho : Hp) (y : Option V) (o : Option β) : Prop := ∀ a, o = some a → ∃ v, y = some v ∧ Z.D K Ho v a
theorem LateD.mo {y : Option V} {o : Option β} (h : LateD K Ho y o) (e : Same Ho Ho') : LateD K Ho' y o := fun a ea => by
  obtain ⟨v, ev, d⟩ := h a ea
  exact ⟨v, ev, D.mo d e⟩
theorem LateD.none {y : Option V} : LateD K Ho y (none : Option β) := fun a e => by cases e
theorem LateD.some {b : β} (d : Z.D K Ho v b) : LateD K Ho (some v) (some b) := fun a e => by cases e; exact ⟨v, rfl, d⟩
theorem late_open {y : Option V} {o : Option β} {P : Prop} {f : β → W γ} (h : LateD K Ho y o) (hw : (W.bind (W.opt o) f).run Φ) (k : ∀ a v, y = some v → Z.D K Ho v a → (f a).run Φ → P) : P := by
  obtain ⟨a, e, hw⟩ := hw
  obtain ⟨v, ev, d⟩ := h a e
  exact k a v ev d hw
end
end Z

/-! # a def with one default, called with all its arguments or with the last by its name -/
namespace L2
open PySem PySem.Spec PyProof.Rows
section
variable {P : Program} {w : World} {K : PySem.W.Frag} {mg : Str → Option Value} {base : Heap} {x qual : Str} {params : Arguments} {body : List Stmt} {scope : Scope} {dvs : List V} {kws : List (Str × V)} {f T : Addr} {fd : FuncData} {d : V} {a b : Str}
theorem FunD.ok0 {N ps : List Str} {k : Nat} {sp : Sp} (F : FunD K x qual params body scope dvs kws f fd) (S : FnScope N ps scope) (len : ∀ vs H Q E, sp vs H Q E → vs.length = ps.length)
    (hbody : ∀ (cdv : Value) (A : Around) (outer : List Env) (s : Shared) (H : Hp) (vs : List V) (Q : VK) (E : XK), Room k (A.deeper (envOfC qual scope s.heap.objs.size f cdv)) → sp vs H Q E →
      ∃ t, PSs (cxOf CX0 P w K mg base N qual scope f cdv A outer s H E).nox body t ∧ t { nx := fun _ H' => Q .non H', rt := Q } (start N vs) H) : FnOk P w K mg base CX0 (k + 1) f fd ps sp := by
  obtain ⟨oc, od, dV, kV, doc, pm, an, cdv, ct, osl, rfl, lk, hcd, _, _⟩ := F.ex
  refine fn_of lk hcd S len fun A outer s H vs Q E hr hsp => ?_
  obtain ⟨t, h, q⟩ := hbody cdv A outer s H vs Q E hr hsp
  exact ⟨t, h.nox, q⟩
theorem FunD.okX {N ps : List Str} {k : Nat} {sp : Sp} (F : FunD K x qual params body scope dvs kws f fd) (S : FnScope N ps scope) (len : ∀ vs H Q E, sp vs H Q E → vs.length = ps.length)
    (hbody : ∀ (cdv : Value) (A : Around) (outer : List Env) (s : Shared) (H : Hp) (vs : List V) (Q : VK) (E : XK), Room k (A.deeper (envOfC qual scope s.heap.objs.size f cdv)) → sp vs H Q E →
      ∃ t, PSs (cxOf (L2.CX P w) P w K mg base N qual scope f cdv A outer s H E) body t ∧ t { nx := fun _ H' => Q .non H', rt := Q } (start N vs) H) : FnOk P w K mg base (L2.CX P w) (k + 1) f fd ps sp := F.ok S len hbody
theorem fund_mk {st : Stmt} {oc : Value} {od an : Option Addr} {osl : Array (Option Value)} {kV doc pm cdv ct tc : Value} {td : Option Addr} {tn : Nat} {tsl : Array (Option Value)} {i : Int} {tk : Tok}
    (l : K.lookup f = some ⟨oc, od, .func (PySem.W.fnOf x qual (defArgs st) (defBody st) (defScope st) (.ref T) kV doc pm an cdv ct), osl⟩)
    (c : PySem.W.codeIn K cdv qual = true) (k : PySem.W.keepIn K (.ref f) = true) (t : K.lookup T = some ⟨tc, td, .seq #[.int i tk] tn, tsl⟩) : FunD K x qual (defArgs st) (defBody st) (defScope st) [V.int i] [] f (PySem.W.fnOf x qual (defArgs st) (defBody st) (defScope st) (.ref T) kV doc pm an cdv ct) :=
  ⟨⟨oc, od, _, kV, doc, pm, an, cdv, ct, osl, rfl, l, c, .inr ⟨by simp, T, _, [.int i tk], tn, rfl, t, rfl, .cons ⟨tk, rfl⟩ .nil⟩, .inl rfl⟩, k⟩
theorem FunD.pos2 (F : FunD K x qual params body scope [d] [] f fd)
    (h : ∀ (T : Addr) (kV doc pm : Value) (an : Option Addr) (cdv ct : Value) (us its : List Value), us.length = 2 → its.length = 1 →
      ∃ k, bindArgs (PySem.W.fnOf x qual params body scope (.ref T) kV doc pm an cdv ct) ⟨us, []⟩ = seqItems? (.ref T) >>= k ∧ k (some its.toArray) = pure ([a, b].zip (us ++ its.drop 1))) : Binds K fd [a, b] [] := by
  obtain ⟨ds, r, hb⟩ := F.binds1 (ps := [a, b]) 2 1 (by simp) rfl h
  cases r
  exact hb
theorem FunD.kw1 (F : FunD K x qual params body scope [d] [] f fd)
    (h : ∀ (T : Addr) (kV doc pm : Value) (an : Option Addr) (cdv ct : Value) (us its ws : List Value), us.length = 1 → its.length = 1 → ws.length = 1 →
      ∃ k, bindArgs (PySem.W.fnOf x qual params body scope (.ref T) kV doc pm an cdv ct) ⟨us, [b].zip ws⟩ = seqItems? (.ref T) >>= k ∧ k (some its.toArray) = pure ([a, b].zip (us ++ ws))) :
    KBn K fd [a, b] 1 [b] (fun us ws => us ++ ws) (fun vs zs => vs ++ zs) := by
  obtain ⟨oc, od, dV, kV, doc, pm, an, cdv, ct, osl, rfl, lk, hcd, hD, hK⟩ := F.ex
  rcases hD with ⟨e, _⟩ | ⟨_, T, o, its, m, rfl, lT, oT, rT⟩
  · cases e
  · refine ⟨fun s us ws X l1 l2 => ?_, fun r1 r2 => r1.append r2⟩
    obtain ⟨k, e1, e2⟩ := h T kV doc pm an cdv ct us its ws l1 rT.length.symm l2
    refine BindsTo.of_looks fun M => ?_
    rw [e1]
    exact looks_items X lT oT (.of_pure e2)
end
end L2
namespace Z
open PySem PySem.Spec PyProof.Rows L2
theorem y_callN {n m : Nat} {sp : Sp} {gV : List V → List V → List V} {E : XK} {t tk : TA} {σ : L2.St} {H : Hp} {Q : VK} (k : t σ H fun vs H1 => tk σ H1 fun zs H2 => vs.length = n ∧ zs.length = m ∧ sp (gV vs zs) H2 Q E) : tCallN n m sp gV E t tk σ H Q := k
def rAddBB : R2 := fun x y H Q => ∃ a b, x = .bl a ∧ y = .bl b ∧ Q (.int ((if a = true then (1 : Int) else 0) + (if b = true then (1 : Int) else 0))) H
theorem zop_addBB {X : Cx} : OpR X (binaryOp .Add) rAddBB := by
  intro pins s σ H x y v u Q I rx ry h
  obtain ⟨a, b, rfl, rfl, q⟩ := h
  cases rx
  cases ry
  exact add_bool ⟨.int _, H, I.tok _, ⟨_, rfl⟩, q⟩
theorem y_addBB {a b : Bool} {Q : VK} {H : Hp} (k : Q (.int ((if a = true then (1 : Int) else 0) + (if b = true then (1 : Int) else 0))) H) : rAddBB (.bl a) (.bl b) H Q := ⟨a, b, rfl, rfl, k⟩
end Z

/-! # as Ydfl's calls by name, where the def may let errors out -/
namespace L2
open PySem PySem.Spec PyProof.Rows
def tCallNS (n m : Nat) (sp : Sp) (gV : List V → List V → List V) (E : St → XK) (t tk : TA) : TE := fun σ H Q => t σ H fun vs H1 => tk σ H1 fun zs H2 => vs.length = n ∧ zs.length = m ∧ sp (gV vs zs) H2 Q (E σ)
section
variable {X : Cx} {CX : CXT} {k n : Nat} {f : Addr} {fd : FuncData} {ps ks : List Str} {sp : Sp} {E : St → XK} {x : Str} {p pos : Pos} {e : Expr} {es : List Expr} {kws : List Keyword} {t tk : TA} {g : List Value → List Value → List Value} {gV : List V → List V → List V}
theorem run_fnNS {pins : List (Addr × Obj)} {σ : St} {H : Hp} {s : Shared} {Q : VK} {us ws : List Value} {vs zs : List V} (F : FnOk X.prog X.w X.K X.mg X.base CX k f fd ps sp) (hr : Room k X.A) (hb : KBn X.K fd ps n ks g gV) (hx : PassesAt CX X σ (E σ))
    (I : Inv X pins σ H s) (r : Vals vs us) (rz : Vals zs ws) (l1 : vs.length = n) (l2 : zs.length = ks.length) (h : sp (gV vs zs) H Q (E σ)) : wpAny (model X.prog X.w) X.A (call (.ref f) us (ks.zip ws)) (EP X pins σ Q) X.xe s := by
  have r2 := hb.rel r rz
  refine wpAny_call (codeAny_mono (F.run X.A X.stack s H ⟨us, ks.zip ws⟩ (g us ws) (gV vs zs) Q (E σ) hr I.env0 (hb.to s us ws I.kIn (r.length.symm.trans l1) (rz.length.symm.trans l2)) r2 h) fun r s' hq => ?_)
  cases r with
  | error e => exact hx pins H s e s' I hq
  | ok fl =>
    cases fl with
    | ret u => exact I.after hq
    | next => exact False.elim hq
    | brk => exact False.elim hq
    | cont => exact False.elim hq
theorem pe_callNS (F : FnOk X.prog X.w X.K X.mg X.base CX k f fd ps sp) (hr : Room k X.A) (hg : Gl X x) (hm : X.mg x = some (.ref f)) (hk : PySem.W.keepIn X.K (.ref f) = true) (hb : KBn X.K fd ps n ks g gV) (hx : ∀ σ, PassesAt CX X σ (E σ))
    (ha : PA X (e :: es) t) (hkw : PK X kws tk) (hall : (backToKw pos (keywordEach kws X.env)).all (·.1.isSome) = true := by rfl) (hks : (backToKw pos (keywordEach kws X.env)).filterMap (·.1) = ks := by rfl)
    (hdb : (x == ("__debug__" : Str)) = false := by decide) (he : starEach (e :: es) X.env = (false, eval e X.env) :: starEach es X.env := by rfl)
    (hpl : ((backTo pos (starEach (e :: es) X.env)).any (·.1) || (backToKw pos (keywordEach kws X.env)).any (·.1.isNone)) = false := by rfl) :
    PE X (.Call (.Name x p) (e :: es) kws pos) (tCallNS n ks.length sp gV E t tk) := by
  refine ⟨fun pins s σ H Q I h => ?_⟩
  refine wpAny_Call_Name_kw (ld_glob I hg hm ?_ hdb)
  refine PySem.W.callWith_KW (h₀ := X.base) I.ok.mod.kin hk hall (thn (ha.run pos pins s σ H _ I h) fun us s1 ⟨vs, H1, I1, r, q⟩ => ?_) hpl he
  refine thn (hkw.run pos pins s1 σ H1 _ I1 q) fun ws s2 ⟨zs, H2, I2, rz, l1, l2, q2⟩ => ⟨I2.kIn, ?_⟩
  rw [hks]
  exact run_fnNS F hr hb (hx σ) I2 r rz l1 l2 q2
end
end L2
namespace Z
open PySem PySem.Spec PyProof.Rows L2
theorem y_callNS {n m : Nat} {sp : Sp} {gV : List V → List V → List V} {E : L2.St → XK} {t tk : TA} {σ : L2.St} {H : Hp} {Q : VK} (k : t σ H fun vs H1 => tk σ H1 fun zs H2 => vs.length = n ∧ zs.length = m ∧ sp (gV vs zs) H2 Q (E σ)) : tCallNS n m sp gV E t tk σ H Q := k
end Z

/-! # all is lent up to a scalar answer; own lists of own things -/
namespace Z
open PySem PySem.Spec PyProof.Rows L2
section
variable {K : PySem.W.Frag} {H Ho H' Ho' : Hp} {rs rs' g R : Grp} {v w : V}
/-- all that there is stands for good, up to the answer of a call -/
theorem Zs.all (z : Zs rs H Ho) : Zs [] H H := ⟨Same.refl _, (fun r hr => nomatch hr), List.nodup_nil, (fun r hr => nomatch hr)⟩
theorem Zs.unlend (z : Zs rs H Ho) (e : Same H Ho') (z' : Zs [] H' Ho') : Zs rs H' Ho :=
  ⟨(z.le.trans e).trans z'.le, fun r hr => ⟨z'.le _ _ (e _ _ (z.rt r hr).1), (z.rt r hr).2⟩, z.nd, z.nt⟩
theorem Zs.unlendO (z : Zs rs H Ho) (e : Same H Ho') (z' : Zs (g ++ []) H' Ho') : Zs (g ++ rs) H' Ho := by
  rw [List.append_nil] at z'
  have nw : ∀ r ∈ g, H r.1 = none := fun r hr => by
    cases h : H r.1 with
    | none => rfl
    | some o =>
      have := e _ _ h
      rw [(z'.rt r hr).2] at this
      cases this
  refine ⟨(z.le.trans e).trans z'.le, fun r hr => ?_, ?_, fun r hr => ?_⟩
  · rcases List.mem_append.mp hr with h | h
    · exact ⟨(z'.rt r h).1, z.free (nw r h)⟩
    · exact ⟨z'.le _ _ (e _ _ (z.rt r h).1), (z.rt r h).2⟩
  · rw [List.map_append, List.nodup_append]
    refine ⟨z'.nd, z.nd, fun a ha b hb c => ?_⟩
    subst c
    obtain ⟨r, hr, rfl⟩ := List.mem_map.mp ha
    obtain ⟨r', hr', c⟩ := List.mem_map.mp hb
    have := (z.rt r' hr').1
    rw [c, nw r hr] at this
    cases this
  · rcases List.mem_append.mp hr with h | h
    · exact z'.nt r h
    · exact z.nt r h
theorem Zs.in_ (z : Zs rs H Ho) (m : ∀ r ∈ g, r ∈ rs) : ∀ r ∈ g, H r.1 = some r.2 := fun r h => (z.rt r (m r h)).1
/-- a group of roots stands for good from now on -/
theorem Zs.frG : ∀ {g : Grp} {Ho : Hp}, Zs (g ++ R) H Ho → ∃ Ho', Same Ho Ho' ∧ Zs R H Ho' ∧ ∀ r ∈ g, Ho' r.1 = some r.2
  | [], Ho, z => ⟨Ho, Same.refl _, z, fun r h => nomatch h⟩
  | (p, o) :: g, Ho, z => by
    have z1 : Zs ((p, o) :: (g ++ R)) H Ho := z
    obtain ⟨Ho', e, z2, h⟩ := Zs.frG (g := g) z1.freeze
    refine ⟨Ho', (Same.new z1.headN).trans e, z2, fun r hr => ?_⟩
    rcases List.mem_cons.mp hr with q | q
    · subst q
      exact e _ _ upd_same
    · exact h r q
end
/-! ### own things in general -/
abbrev OwnPred (β : Type) := PySem.W.Frag → Hp → V → β → Grp → Prop
class OwnD {β : Type} [Py β] (P : OwnPred β) : Prop where
  mo : ∀ {K : PySem.W.Frag} {Ho Ho2 : Hp} {v : V} {x : β} {g : Grp}, P K Ho v x g → Same Ho Ho2 → P K Ho2 v x g
  rd : ∀ {K : PySem.W.Frag} {Ho H : Hp} {v : V} {x : β} {g : Grp}, P K Ho v x g → Same Ho H → (∀ r ∈ g, H r.1 = some r.2) → Z.D K H v x
/-- what needs no heap -/
class Pur (α : Type) [Py α] : Prop where
  pu : ∀ {K : PySem.W.Frag} {H H' : Hp} {v : V} {x : α}, Z.D K H v x → Z.D K H' v x
instance : Pur Int := ⟨fun d => by rw [d_int d]; exact .int _⟩
instance : Pur Bool := ⟨fun d => by rw [d_bool d]; exact .bl _⟩
instance : Pur Str := ⟨fun d => by rw [d_str d]; exact .str _⟩
section
variable {K : PySem.W.Frag} {H Ho H' Ho' : Hp} {R : Grp} {v w : V} {α β γ : Type} [Py α] [Py β] {Φ : γ → Prop} {Q : VK}
instance : OwnD (fun K Ho v xs g => OL (α := α) K Ho v xs g) where
  mo := fun o e => OL.mo o e
  rd := fun o e m => by
    obtain ⟨p, vs, rfl, d, rfl⟩ := o
    exact .lst (SqL.of (m _ List.mem_cons_self)) (DL.mo d e)
theorem DL.pu [Pur α] : ∀ {vs : List V} {xs : List α}, DL K H vs xs → DL K H' vs xs
  | [], [], _ => .nil
  | [], _ :: _, h => by cases h
  | _ :: _, [], h => by cases h
  | v :: vs, x :: xs, h => by
    cases h with
    | cons h1 h2 => exact .cons (Pur.pu h1) (DL.pu h2)
theorem OL.pu [Pur α] {xs : List α} {g : Grp} (o : OL K Ho v xs g) : OL K Ho' v xs g := by
  obtain ⟨p, vs, rfl, d, rfl⟩ := o
  exact ⟨p, vs, rfl, d.pu, rfl⟩
theorem ow_fr {x : β} {P : OwnPred β} [OwnD P] {g : Grp} {X : Prop} (o : P K Ho v x g) (z : Zs (g ++ R) H Ho) (k : ∀ Ho', Same Ho Ho' → Zs R H Ho' → Z.D K Ho' v x → X) : X := by
  obtain ⟨Ho', e, z', m⟩ := z.frG
  exact k Ho' e z' (OwnD.rd o e m)
/-! ### own lists of own things -/
inductive RowO {β : Type} (P : V → β → Grp → Prop) : List V → List β → List Grp → Prop
  | nil : RowO P [] [] []
  | cons {v : V} {x : β} {g : Grp} {vs : List V} {xs : List β} {gs : List Grp} (h : P v x g) (t : RowO P vs xs gs) : RowO P (v :: vs) (x :: xs) (g :: gs)
theorem RowO.imp {P P' : V → β → Grp → Prop} (h : ∀ v x g, P v x g → P' v x g) : ∀ {vs : List V} {xs : List β} {gs : List Grp}, RowO P vs xs gs → RowO P' vs xs gs
  | _, _, _, .nil => .nil
  | _, _, _, .cons a t => .cons (h _ _ _ a) (t.imp h)
theorem RowO.len {P : V → β → Grp → Prop} : ∀ {vs : List V} {xs : List β} {gs : List Grp}, RowO P vs xs gs → vs.length = xs.length ∧ gs.length = xs.length
  | _, _, _, .nil => ⟨rfl, rfl⟩
  | _, _, _, .cons a t => ⟨by simp [t.len.1], by simp [t.len.2]⟩
theorem RowO.get {P : V → β → Grp → Prop} : ∀ {vs : List V} {xs : List β} {gs : List Grp} {i : Nat} {x : β}, RowO P vs xs gs → xs[i]? = some x → ∃ v g, vs[i]? = some v ∧ gs[i]? = some g ∧ P v x g
  | _, _, _, i, _, .nil, e => by simp at e
  | _, _, _, 0, _, .cons a t, e => by cases e; exact ⟨_, _, rfl, rfl, a⟩
  | _, _, _, i + 1, _, .cons a t, e => t.get (i := i) (by simpa using e)
theorem RowO.set {P : V → β → Grp → Prop} : ∀ {vs : List V} {xs : List β} {gs : List Grp} {i : Nat} {v : V} {x : β} {g : Grp}, RowO P vs xs gs → vs[i]? = some v → P v x g → RowO P vs (xs.set i x) (gs.set i g)
  | _, _, _, i, _, _, _, .nil, e, _ => by simp at e
  | _, _, _, 0, _, _, _, .cons a t, e, p => by cases e; exact .cons p t
  | _, _, _, i + 1, _, _, _, .cons a t, e, p => .cons a (t.set (i := i) (by simpa using e) p)
theorem RowO.snoc {P : V → β → Grp → Prop} : ∀ {vs : List V} {xs : List β} {gs : List Grp} {v : V} {x : β} {g : Grp}, RowO P vs xs gs → P v x g → RowO P (vs ++ [v]) (xs ++ [x]) (gs ++ [g])
  | _, _, _, _, _, _, .nil, p => .cons p .nil
  | _, _, _, _, _, _, .cons a t, p => .cons a (t.snoc p)
def OLo (P : OwnPred β) : OwnPred (List β) := fun K Ho v xs g => ∃ p vs gs, v = .ref p ∧ RowO (P K Ho) vs xs gs ∧ g = (p, HO.lst vs) :: gs.flatten
theorem OLo.mo {P : OwnPred β} [OwnD P] {xs : List β} {g : Grp} (h : OLo P K Ho v xs g) (e : Same Ho Ho') : OLo P K Ho' v xs g := by
  obtain ⟨p, vs, gs, rfl, r, rfl⟩ := h
  exact ⟨p, vs, gs, rfl, r.imp fun v x g h => OwnD.mo h e, rfl⟩
theorem RowO.rd {P : OwnPred β} [OwnD P] (e : Same Ho H) : ∀ {vs : List V} {xs : List β} {gs : List Grp}, RowO (P K Ho) vs xs gs → (∀ r ∈ gs.flatten, H r.1 = some r.2) → DL K H vs xs
  | _, _, _, .nil, _ => .nil
  | _, _, _, .cons a t, m => .cons (OwnD.rd a e fun r h => m r (by rw [List.flatten_cons]; exact List.mem_append_left _ h)) (RowO.rd e t fun r h => m r (by rw [List.flatten_cons]; exact List.mem_append_right _ h))
instance {P : OwnPred β} [OwnD P] : OwnD (OLo P) where
  mo := fun o e => OLo.mo o e
  rd := fun o e m => by
    obtain ⟨p, vs, gs, rfl, r, rfl⟩ := o
    exact .lst (SqL.of (m _ List.mem_cons_self)) (r.rd e fun q h => m q (List.mem_cons_of_mem _ h))
theorem flat_set {gs : List Grp} {i : Nat} {g g' : Grp} (h : gs[i]? = some g) : (gs.set i g').flatten.Perm (g' ++ (gs.set i []).flatten) := by
  induction gs generalizing i with
  | nil => simp at h
  | cons a gs ih =>
    cases i with
    | zero => simp
    | succ i =>
      have := ih (i := i) (by simpa using h)
      simp only [List.set_cons_succ, List.flatten_cons]
      refine (this.append_left a).trans ?_
      rw [← List.append_assoc, ← List.append_assoc]
      exact List.perm_append_comm.append_right _
theorem flat_at {gs : List Grp} {i : Nat} {g : Grp} (h : gs[i]? = some g) : gs.flatten.Perm (g ++ (gs.set i []).flatten) := by
  have e : gs.set i g = gs := by
    apply List.ext_getElem?
    intro j
    rw [List.getElem?_set]
    split
    · rename_i c; subst c
      obtain ⟨hl, _⟩ := List.getElem?_eq_some_iff.mp h
      rw [if_pos hl, h]
    · rfl
  have := flat_set (g' := g) h
  rwa [e] at this
/-- an item of a list is another one -/
def setI {α : Type} (xs : List α) (i : Int) (x : α) : List α := match ixN xs.length i with
  | some j => xs.set j x
  | none => xs
/-- a list, one of whose items (i) is looked after elsewhere -/
def OLh (P : OwnPred β) (i : Int) (u : V) : OwnPred (List β) := fun K Ho v xs g => ∃ p vs gs j, v = .ref p ∧ RowO (P K Ho) vs xs gs ∧ ixN xs.length i = some j ∧ vs[j]? = some u ∧ g = (p, HO.lst vs) :: (gs.set j []).flatten
theorem OLh.mo {P : OwnPred β} [OwnD P] {i : Int} {u : V} {xs : List β} {g : Grp} (h : OLh P i u K Ho v xs g) (e : Same Ho Ho') : OLh P i u K Ho' v xs g := by
  obtain ⟨p, vs, gs, j, rfl, r, q⟩ := h
  exact ⟨p, vs, gs, j, rfl, r.imp fun v x g h => OwnD.mo h e, q⟩
/-- an item's value is known -/
def ElAt (R : Grp) (v : V) (i : Int) (u : V) : Prop := ∃ p vs, v = .ref p ∧ (p, HO.lst vs) ∈ R ∧ atI vs i = some u
theorem at_ix {α : Type} {xs : List α} {i : Int} {x : α} (h : atI xs i = some x) : ∃ j, ixN xs.length i = some j ∧ xs[j]? = some x := by
  unfold atI at h
  cases q : ixN xs.length i with
  | none => rw [q] at h; cases h
  | some j => rw [q] at h; exact ⟨j, rfl, h⟩
theorem ix_at {α : Type} {xs : List α} {i : Int} {j : Nat} (h : ixN xs.length i = some j) : atI xs i = xs[j]? := by
  unfold atI
  rw [h]; rfl
/-- an item is taken into one's own hands (pb: it goes back as it was) -/
theorem o_open {P : OwnPred β} {xs : List β} {i : Int} {g : Grp} {f : β → W γ} {X : Prop} (o : OLo P K Ho v xs g) (z : Zs (g ++ R) H Ho) (hw : (W.bind (W.opt (atI xs i)) f).run Φ)
    (k : ∀ x u gi gh, (∀ R H Ho, Zs (gi ++ (gh ++ R)) H Ho → Zs (g ++ R) H Ho) → Zs (gi ++ (gh ++ R)) H Ho → OLh P i u K Ho v xs gh → P K Ho u x gi → (f x).run Φ → X) : X := by
  obtain ⟨x, ex, hw⟩ := hw
  obtain ⟨p, vs, gs, rfl, r, rfl⟩ := o
  obtain ⟨j, ej, hx⟩ := at_ix ex
  obtain ⟨u, gi, hu, hg, pu⟩ := r.get hx
  have pm : ∀ R : Grp, ((p, HO.lst vs) :: (gs.flatten ++ R)).Perm (gi ++ ((p, HO.lst vs) :: ((gs.set j []).flatten ++ R))) := fun R => by
    refine List.Perm.trans ?_ List.perm_middle.symm
    refine List.Perm.cons _ ?_
    rw [← List.append_assoc]
    exact (flat_at hg).append_right _
  exact k x u gi ((p, HO.lst vs) :: (gs.set j []).flatten) (fun R H Ho z => z.perm (pm R).symm) (z.perm (pm R)) ⟨p, vs, gs, j, rfl, r, ej, hu, rfl⟩ pu hw
/-- the same, the item's value known -/
theorem o_openE {P : OwnPred β} {xs : List β} {i : Int} {g R' : Grp} {u : V} {f : β → W γ} {X : Prop} (o : OLo P K Ho v xs g) (z : Zs (g ++ R) H Ho) (el : ElAt R' v i u) (m : ∀ r ∈ R', r ∈ g ++ R) (hw : (W.bind (W.opt (atI xs i)) f).run Φ)
    (k : ∀ x gi gh, (∀ R H Ho, Zs (gi ++ (gh ++ R)) H Ho → Zs (g ++ R) H Ho) → Zs (gi ++ (gh ++ R)) H Ho → OLh P i u K Ho v xs gh → P K Ho u x gi → (f x).run Φ → X) : X := by
  obtain ⟨p', vs', e1, m', e2⟩ := el
  have hp := (z.rt _ (m _ m')).1
  refine o_open o z hw fun x w gi gh pb z' oh pw hw => ?_
  have : w = u := by
    obtain ⟨p2, vs2, gs2, j, e, r2, ej, hj, hg2⟩ := id oh
    have ee := e1.symm.trans e
    cases ee
    have h3 := (z'.rt (p', HO.lst vs2) (List.mem_append_right _ (List.mem_append_left _ (by rw [hg2]; exact List.mem_cons_self)))).1
    have : vs2 = vs' := by
      have := h3.symm.trans hp
      cases this
      rfl
    subst this
    rw [← r2.len.1] at ej
    rw [ix_at ej, hj] at e2
    cases e2
    rfl
  subst this
  exact k x gi gh pb z' oh pw hw
/-- the item goes back into the list -/
theorem o_fill {P : OwnPred β} {xs : List β} {i : Int} {u : V} {x : β} {gi gh : Grp} {X : Prop} (oh : OLh P i u K Ho v xs gh) (o : P K Ho u x gi) (z : Zs (gi ++ (gh ++ R)) H Ho)
    (k : ∀ g, Zs (g ++ R) H Ho → OLo P K Ho v (setI xs i x) g → X) : X := by
  obtain ⟨p, vs, gs, j, rfl, r, ej, hu, rfl⟩ := oh
  obtain ⟨g0, hg⟩ : ∃ g, gs[j]? = some g := by
    have h1 := (List.getElem?_eq_some_iff.mp hu).1
    have := r.len
    exact ⟨_, List.getElem?_eq_getElem (by omega)⟩
  refine k ((p, HO.lst vs) :: (gs.set j gi).flatten) (z.perm ?_) ⟨p, vs, gs.set j gi, rfl, ?_, rfl⟩
  · show (gi ++ ((p, HO.lst vs) :: ((gs.set j []).flatten ++ R))).Perm ((p, HO.lst vs) :: ((gs.set j gi).flatten ++ R))
    refine List.perm_middle.trans (List.Perm.cons _ ?_)
    rw [← List.append_assoc]
    exact ((flat_set hg).symm).append_right _
  · unfold setI
    rw [ej]
    exact r.set hu o
/-- borrowed -/
def BLo (P : OwnPred β) (K : PySem.W.Frag) (R : Grp) (Ho : Hp) (v : V) (xs : List β) : Prop := ∃ g, OLo P K Ho v xs g ∧ ∀ r ∈ g, r ∈ R
theorem BLo.mo {P : OwnPred β} [OwnD P] {xs : List β} (h : BLo P K R Ho v xs) (e : Same Ho Ho') : BLo P K R Ho' v xs := by
  obtain ⟨g, o, m⟩ := h
  exact ⟨g, o.mo e, m⟩
theorem BLo.sub {P : OwnPred β} {R2 : Grp} {xs : List β} (h : BLo P K R Ho v xs) (e : ∀ r ∈ R, r ∈ R2) : BLo P K R2 Ho v xs := by
  obtain ⟨g, o, m⟩ := h
  exact ⟨g, o, fun r hr => e r (m r hr)⟩
theorem BLo.rd {P : OwnPred β} [OwnD P] {xs : List β} (h : BLo P K R Ho v xs) (z : Zs R H Ho) : Z.D K H v xs := by
  obtain ⟨g, o, m⟩ := h
  exact OwnD.rd o z.le (z.in_ m)
theorem y_lenLo {P : OwnPred β} {xs : List β} (h : BLo P K R Ho v xs) (z : Zs R H Ho) (k : Q (.int (xs.length : Int)) H) : rLenZ K [v] H Q := by
  obtain ⟨g, ⟨p, vs, gs, rfl, r, rfl⟩, m⟩ := h
  refine ⟨_, _, rfl, .inl (SqL.of (z.rt _ (m _ List.mem_cons_self)).1), ?_⟩
  rw [r.len.1]
  exact k
theorem y_ixLo {P : OwnPred β} {xs : List β} {i : Int} {rs : Grp} {f : β → W γ} (h : BLo P K R Ho v xs) (m0 : ∀ r ∈ R, r ∈ rs) (z : Zs rs H Ho) (hw : (W.bind (W.opt (atI xs i)) f).run Φ) (k : ∀ x u, ElAt R v i u → (∃ g, P K Ho u x g ∧ ∀ r ∈ g, r ∈ R) → (f x).run Φ → Q u H) : rIxL K v (.int i) H Q := by
  obtain ⟨x, ex, hw⟩ := hw
  obtain ⟨g, ⟨p, vs, gs, rfl, r, rfl⟩, m⟩ := h
  obtain ⟨j, ej, hx⟩ := at_ix ex
  obtain ⟨u, gi, hu, hg, pu⟩ := r.get hx
  have hm := m _ List.mem_cons_self
  have hat : atI vs i = some u := by
    rw [← r.len.1] at ej
    rw [ix_at ej, hu]
  exact ⟨p, vs, i, u, rfl, rfl, SqL.of (z.rt _ (m0 _ hm)).1, hat, k x u ⟨p, vs, rfl, hm, hat⟩ ⟨gi, pu, fun q hq => m q (List.mem_cons_of_mem _ (List.mem_flatten.mpr ⟨gi, List.mem_of_getElem? hg, hq⟩))⟩ hw⟩
/-- xs.append(x), both one's own: x goes into xs -/
theorem g_appO {P : OwnPred β} {xs : List β} {x : β} {g gi : Grp} {f : List β → W γ} (z : Zs (gi ++ (g ++ R)) H Ho) (o : OLo P K Ho v xs g) (ox : P K Ho w x gi) (hw : (W.bind (apd xs x) f).run Φ)
    (k : ∀ xs' g' H', Zs (g' ++ R) H' Ho → OLo P K Ho v xs' g' → (f xs').run Φ → Q .non H') : rAppend v [w] H Q := by
  obtain ⟨p, vs, gs, rfl, r, rfl⟩ := o
  have z1 : Zs ((p, HO.lst vs) :: (gi ++ (gs.flatten ++ R))) H Ho := z.perm List.perm_middle
  refine ⟨p, vs, w, rfl, rfl, z1.head, by rw [r.len.1]; exact hw.1, k _ ((p, HO.lst (vs ++ [w])) :: (gs ++ [gi]).flatten) _ ?_ ⟨p, _, _, rfl, r.snoc ox, rfl⟩ hw.2⟩
  refine z1.put.perm (List.Perm.cons _ ?_)
  rw [List.flatten_append, List.flatten_singleton, ← List.append_assoc]
  exact List.perm_append_comm.append_right _
/-- a loop over such a list, each item changed in its turn -/
def mapL {β : Type} : List β → (β → W (Unit × β)) → W (List β)
  | [], _ => W.ret []
  | x :: xs, c => W.bind (c x) fun r => W.bind (mapL xs c) fun ys => W.ret (r.2 :: ys)
theorem set_mid {α : Type} : ∀ {xs ys : List α} {x y : α}, (xs ++ x :: ys).set xs.length y = xs ++ y :: ys
  | [], _, _, _ => rfl
  | a :: xs, ys, x, y => by simp [set_mid (xs := xs)]
theorem y_forM {P : OwnPred β} [OwnD P] {xs : List β} {c : β → W (Unit × β)} {f : List β → W γ} {g : Grp} {tg : TG} {tb u1 : TS} {D : Ends} {σ : L2.St} (o : OLo P K Ho v xs g) (z : Zs (g ++ R) H Ho) (hw : (W.bind (mapL xs c) f).run Φ) (I : L2.St → Prop) (i0 : I σ)
    (step : ∀ a u gi R' σ' H' Ho' (N : L2.St → Hp → Prop), Zs (gi ++ R') H' Ho' → P K Ho' u a gi → I σ' → (c a).run (fun r => ∀ σ'' gi' H'' Ho'', I σ'' → Same Ho' Ho'' → Zs (gi' ++ R') H'' Ho'' → P K Ho'' u r.2 gi' → N σ'' H'') → tg u σ' H' fun σ2 H2 => tb { D with nx := N, ct := N, bk := u1 D } σ2 H2)
    (done : ∀ xs' g' σ' H' Ho', Same Ho Ho' → Zs (g' ++ R) H' Ho' → OLo P K Ho' v xs' g' → I σ' → (f xs').run Φ → u1 D σ' H') : SrcL K (fun J H1 => ForG tg tb u1 D σ J H1) v H := by
  obtain ⟨p, vs, gs, rfl, r, rfl⟩ := o
  refine ⟨p, rfl, ⟨vs, SqL.of (z.rt _ (List.mem_append_left _ List.mem_cons_self)).1⟩, ?_⟩
  refine ⟨fun i m σ' H' => m = xs.length - i ∧ ∃ Ho' xs' ys gs', Same Ho Ho' ∧ xs'.length = i ∧ i + ys.length = xs.length ∧ RowO (P K Ho') vs (xs' ++ ys) gs' ∧ Zs (((p, HO.lst vs) :: gs'.flatten) ++ R) H' Ho' ∧ I σ' ∧ (W.bind (mapL ys c) fun zs => f (xs' ++ zs)).run Φ,
    ⟨xs.length, by simp, Ho, [], xs, gs, Same.refl _, rfl, by simp, r, z, i0, hw⟩, ?_⟩
  rintro i m σ' H' ⟨rfl, Ho', xs', ys, gs', e', l1, l2, r', z', hI, hw⟩
  have sq : SqL K H' p vs := SqL.of (z'.rt _ (List.mem_append_left _ List.mem_cons_self)).1
  cases ys with
  | nil =>
    refine .inl ⟨⟨vs, sq, ?_⟩, ?_⟩
    · rw [r'.len.1, List.append_nil, l1]; exact Nat.le_refl _
    · rw [List.append_nil] at r'
      have hw : (f (xs' ++ [])).run Φ := hw
      rw [List.append_nil] at hw
      exact done xs' _ σ' H' Ho' e' z' ⟨p, vs, gs', rfl, r', rfl⟩ hI hw
  | cons y ys =>
    refine .inr ?_
    have hx : (xs' ++ y :: ys)[i]? = some y := by rw [List.getElem?_append_right (by omega), l1]; simp
    obtain ⟨u, gi, hu, hg, pu⟩ := r'.get hx
    refine ⟨⟨vs, u, sq, hu⟩, fun σ'' H'' => ∃ Ho' xs' ys gs', Same Ho Ho' ∧ xs'.length = i + 1 ∧ i + 1 + ys.length = xs.length ∧ RowO (P K Ho') vs (xs' ++ ys) gs' ∧ Zs (((p, HO.lst vs) :: gs'.flatten) ++ R) H'' Ho' ∧ I σ'' ∧ (W.bind (mapL ys c) fun zs => f (xs' ++ zs)).run Φ,
      fun σ'' H'' hN => ⟨xs.length - (i + 1), by rw [List.length_cons] at l2; omega, rfl, hN⟩, fun x H'' yy => ?_⟩
    obtain ⟨rfl, yy⟩ := yy
    have ex : x = u := Option.some.inj ((yy _ sq).symm.trans hu)
    subst ex
    have z2 : Zs (gi ++ ((p, HO.lst vs) :: ((gs'.set i []).flatten ++ R))) H'' Ho' := z'.perm (by
      refine List.Perm.trans ?_ List.perm_middle.symm
      refine List.Perm.cons _ ?_
      rw [← List.append_assoc]
      exact (flat_at hg).append_right _)
    refine step y x gi _ σ' H'' Ho' _ z2 pu hI ?_
    refine W.mono _ _ _ (fun q hq σ3 gi' H3 Ho3 hI3 e3 z3 pq => ?_) (show (c y).run _ from hw)
    refine ⟨Ho3, xs' ++ [q.2], ys, gs'.set i gi', e'.trans e3, by simp [l1], by rw [List.length_cons] at l2; omega, ?_, ?_, hI3, ?_⟩
    · have r4 := (r'.imp (P' := P K Ho3) fun v x g h => OwnD.mo h e3).set hu pq
      rw [← l1, set_mid] at r4
      rw [List.append_assoc]
      rw [← l1]
      exact r4
    · refine z3.perm (List.perm_middle.trans (List.Perm.cons _ ?_))
      rw [← List.append_assoc]
      exact ((flat_set hg).symm).append_right _
    · have hq : (W.bind (mapL ys c) fun zs => f (xs' ++ q.2 :: zs)).run Φ := hq
      have : (fun zs => f (xs' ++ [q.2] ++ zs)) = fun zs => f (xs' ++ q.2 :: zs) := by funext zs; rw [List.append_assoc]; rfl
      rw [this]
      exact hq
theorem g_tyLo {P : OwnPred β} {xs : List β} {X : Prop} (h : BLo P K R Ho v xs) (z : Zs R H Ho) (k : X) : tyV K "list" v H ∧ X := by
  obtain ⟨g, ⟨p, vs, gs, rfl, r, rfl⟩, m⟩ := h
  exact ⟨.inl ⟨rfl, _, SqL.of (z.rt _ (m _ List.mem_cons_self)).1⟩, k⟩
theorem g_clearO {P : OwnPred β} {xs : List β} {g : Grp} (z : Zs (g ++ R) H Ho) (o : OLo P K Ho v xs g) (k : ∀ g' H', Zs (g' ++ R) H' Ho → OLo P K Ho v ([] : List β) g' → Q .non H') : rClear v [] H Q := by
  obtain ⟨p, vs, gs, rfl, r, rfl⟩ := o
  have z1 : Zs ((p, HO.lst vs) :: R) H Ho := z.sub (List.Sublist.cons₂ _ (List.sublist_append_right _ _))
  exact ⟨p, vs, rfl, rfl, z1.head, k [(p, HO.lst [])] _ z1.put ⟨p, [], [], rfl, .nil, rfl⟩⟩
theorem o_nil {P : OwnPred β} {p : Addr} : OLo P K Ho (.ref p) ([] : List β) [(p, HO.lst [])] := ⟨p, [], [], rfl, .nil, rfl⟩
end
/-! ### comprehensions that tell own things -/
/-- the turns of an iterator: what is known of each item -/
def TrnP {α : Type} (P : Hp → V → α → Prop) (r0 : Grp) (J : It) (xs : List α) (Ho2 : Hp) : Prop :=
  ∀ i rs' H' Ho', Same Ho2 Ho' → Zs rs' H' Ho' → (∀ r ∈ r0, r ∈ rs') → (∀ a, xs[i]? = some a → J.go i H' ∧ ∀ x H'', J.yld i H' x H'' → ∃ Ho'', Same Ho' Ho'' ∧ (∀ rs, Zs rs H' Ho' → Zs rs H'' Ho'') ∧ P Ho'' x a) ∧ (xs.length ≤ i → J.stop i H')
section
variable {K : PySem.W.Frag} {H Ho H' Ho' : Hp} {R r0 rs : Grp} {v w : V} {α β γ : Type} [Py β] {Φ : γ → Prop} {Q : VK} {σ : L2.St} {g : TG} {tt : TT} {te : TE} {vs : List Nat}
theorem trn_bor {P : OwnPred α} [Py α] [OwnD P] {xs : List α} (h : BLo P K r0 Ho v xs) (z : Zs r0 H Ho) : ∃ p, v = .ref p ∧ (∃ ys, SqL K H p ys) ∧ TrnP (fun Ho x a => ∃ g, P K Ho x a g ∧ ∀ r ∈ g, r ∈ r0) r0 (Itl K p) xs Ho := by
  obtain ⟨g, ⟨p, vs, gs, rfl, r, rfl⟩, m⟩ := h
  have hm := m _ List.mem_cons_self
  refine ⟨p, rfl, ⟨vs, SqL.of (z.rt _ hm).1⟩, ?_⟩
  intro i rs' H' Ho' e z' sub
  have sq : SqL K H' p vs := SqL.of (z'.rt _ (sub _ hm)).1
  refine ⟨fun a ha => ?_, fun hl => ⟨vs, sq, by rw [r.len.1]; exact hl⟩⟩
  obtain ⟨u, gi, hu, hg, pu⟩ := r.get ha
  refine ⟨⟨vs, u, sq, hu⟩, fun x H'' y => ?_⟩
  obtain ⟨rfl, y⟩ := y
  have ex : x = u := Option.some.inj ((y _ sq).symm.trans hu)
  subst ex
  refine ⟨Ho', Same.refl _, fun _ z => z, gi, OwnD.mo pu e, fun q hq => m q (List.mem_cons_of_mem _ ?_)⟩
  exact List.mem_flatten.mpr ⟨gi, List.mem_of_getElem? hg, hq⟩
theorem k_srcB {P : OwnPred α} [Py α] [OwnD P] {RI : It → Hp → Prop} {xs : List α} (h : BLo P K r0 Ho v xs) (m : ∀ r ∈ r0, r ∈ rs) (z : Zs rs H Ho) (k : ∀ J, TrnP (fun Ho x a => ∃ g, P K Ho x a g ∧ ∀ r ∈ g, r ∈ r0) r0 J xs Ho → RI J H) : SrcL K RI v H := by
  obtain ⟨g, ⟨p, vs, gs, rfl, r, rfl⟩, m1⟩ := h
  have hm := m1 _ List.mem_cons_self
  refine ⟨p, rfl, ⟨vs, SqL.of (z.rt _ (m _ hm)).1⟩, k _ ?_⟩
  intro i rs' H' Ho' e z' sub
  have sq : SqL K H' p vs := SqL.of (z'.rt _ (sub _ hm)).1
  refine ⟨fun a ha => ?_, fun hl => ⟨vs, sq, by rw [r.len.1]; exact hl⟩⟩
  obtain ⟨u, gi, hu, hg, pu⟩ := r.get ha
  refine ⟨⟨vs, u, sq, hu⟩, fun x H'' y => ?_⟩
  obtain ⟨rfl, y⟩ := y
  have ex : x = u := Option.some.inj ((y _ sq).symm.trans hu)
  subst ex
  refine ⟨Ho', Same.refl _, fun _ z => z, gi, OwnD.mo pu e, fun q hq => m1 q (List.mem_cons_of_mem _ ?_)⟩
  exact List.mem_flatten.mpr ⟨gi, List.mem_of_getElem? hg, hq⟩
theorem y_lcGP {PI : Hp → V → α → Prop} {J : It} {xs : List α} {ct : α → W Bool} {cf : α → W β} {f : List β → W γ} (z : Zs rs H Ho) (hr : ∀ r ∈ r0, r ∈ rs) (T : TrnP PI r0 J xs Ho) (hw : (W.bind (compG xs ct cf) f).run Φ)
    (hx : ∀ (r : Addr × HO) a x H' Ho' (N : VK) (N' : Hp → Prop), Same Ho Ho' → Zs (r :: rs) H' Ho' → PI Ho' x a →
      (W.bind (ct a) fun b => W.ite b (cf a) ⟨fun Ψ => ∀ H'' Ho'', Same Ho' Ho'' → Zs (r :: rs) H'' Ho'' → N' H'', fun _ _ _ q => q⟩).run (fun y => ∀ w H'' Ho'', Same Ho' Ho'' → Zs (r :: rs) H'' Ho'' → Z.D K Ho'' w y → N w H'') →
      g x (wipe σ vs) H' fun σ2 H2 => wipe σ2 vs = wipe σ vs ∧ tt σ2 H2 fun b H3 => if b = true then te σ2 H3 N else N' H3)
    (k : ∀ ys H' Ho', Same Ho Ho' → (f ys).run Φ → ∀ p ws, Zs ((p, .lst ws) :: rs) H' Ho' → DL K Ho' ws ys → Q (.ref p) H') : LcG g tt te vs σ Q J H := by
  intro Dn hD
  obtain ⟨hsz, hw⟩ := hw
  refine ⟨fun i m H => m = xs.length - i ∧ i ≤ xs.length ∧ ∃ (Ho' : Hp) (acc : List β) (acs : List V), Same Ho Ho' ∧ Zs ((Dn, .lst acs) :: rs) H Ho' ∧ DL K Ho' acs acc ∧ acs.length ≤ i ∧ (comp (xs.drop i) acc ct cf).run fun ys => (f ys).run Φ,
    ⟨xs.length, by simp, Nat.zero_le _, Ho, [], [], Same.refl _, z.root hD, .nil, Nat.le_refl _, hw⟩, ?_⟩
  rintro i m H ⟨rfl, hi, Ho', acc, acs, e', z', da, la, hw⟩
  have tr := T i _ H Ho' e' z' fun r hrr => List.mem_cons_of_mem _ (hr r hrr)
  by_cases hlt : i < xs.length
  · refine .inr ?_
    have hxi := List.getElem?_eq_getElem hlt
    obtain ⟨go, yl⟩ := tr.1 _ hxi
    refine ⟨go, fun H' => ∃ (Ho' : Hp) (acc : List β) (acs : List V), Same Ho Ho' ∧ Zs ((Dn, .lst acs) :: rs) H' Ho' ∧ DL K Ho' acs acc ∧ acs.length ≤ i + 1 ∧ (comp (xs.drop (i + 1)) acc ct cf).run fun ys => (f ys).run Φ, fun H' hN => ⟨xs.length - (i + 1), by omega, rfl, hlt, hN⟩, fun x H' y => ?_⟩
    obtain ⟨Ho2, e2, z2, dx⟩ := yl x H' y
    rw [drop_cons hxi] at hw
    refine hx (Dn, .lst acs) _ x H' Ho2 _ _ (e'.trans e2) (z2 _ z') dx ?_
    have hw : (ct xs[i]).run fun b => (W.ite b (W.bind (cf xs[i]) fun y => comp (xs.drop (i + 1)) (acc ++ [y]) ct cf) (comp (xs.drop (i + 1)) acc ct cf)).run fun ys => (f ys).run Φ := hw
    show (ct xs[i]).run _
    refine W.mono _ _ _ (fun b hb => ?_) hw
    refine ⟨fun e => ?_, fun e H'' Ho'' e3 z3 => ?_⟩
    · refine W.mono _ _ _ (fun y hy w H'' Ho'' e3 z3 dw => ?_) (hb.1 e)
      refine ⟨acs, z3.head, by omega, Ho'', acc ++ [y], acs ++ [w], (e'.trans e2).trans e3, z3.put, (DL.mo (DL.mo da e2) e3).push dw, ?_, hy⟩
      rw [List.length_append]
      exact Nat.succ_le_succ la
    · exact ⟨Ho'', acc, acs, (e'.trans e2).trans e3, z3, DL.mo (DL.mo da e2) e3, Nat.le_succ_of_le la, hb.2 e⟩
  · have e : i = xs.length := by omega
    subst e
    refine .inl ⟨tr.2 (Nat.le_refl _), ?_⟩
    rw [List.drop_length] at hw
    exact k acc H Ho' e' hw Dn acs z' da
theorem y_lcO {P : OwnPred β} [OwnD P] {PI : Hp → V → α → Prop} {J : It} {xs : List α} {cf : α → W β} {f : List β → W γ} (z : Zs rs H Ho) (hr : ∀ r ∈ r0, r ∈ rs) (T : TrnP PI r0 J xs Ho) (hw : (W.bind (compG xs (fun _ => W.ret true) cf) f).run Φ)
    (hx : ∀ (r : Grp) a x H' Ho' (N : VK) (N' : Hp → Prop), Same Ho Ho' → Zs (r ++ rs) H' Ho' → PI Ho' x a →
      (cf a).run (fun y => ∀ w gi H'' Ho'', Same Ho' Ho'' → Zs (gi ++ (r ++ rs)) H'' Ho'' → P K Ho'' w y gi → N w H'') →
      g x (wipe σ vs) H' fun σ2 H2 => wipe σ2 vs = wipe σ vs ∧ tt σ2 H2 fun b H3 => if b = true then te σ2 H3 N else N' H3)
    (k : ∀ ys u gn H' Ho', Same Ho Ho' → (f ys).run Φ → Zs (gn ++ rs) H' Ho' → OLo P K Ho' u ys gn → Q u H') : LcG g tt te vs σ Q J H := by
  intro Dn hD
  obtain ⟨hsz, hw⟩ := hw
  refine ⟨fun i m H => m = xs.length - i ∧ i ≤ xs.length ∧ ∃ (Ho' : Hp) (acc : List β) (acs : List V) (gs : List Grp), Same Ho Ho' ∧ Zs (((Dn, HO.lst acs) :: gs.flatten) ++ rs) H Ho' ∧ RowO (P K Ho') acs acc gs ∧ acs.length ≤ i ∧ (comp (xs.drop i) acc (fun _ => W.ret true) cf).run fun ys => (f ys).run Φ,
    ⟨xs.length, by simp, Nat.zero_le _, Ho, [], [], [], Same.refl _, z.root hD, .nil, Nat.le_refl _, hw⟩, ?_⟩
  rintro i m H ⟨rfl, hi, Ho', acc, acs, gs, e', z', da, la, hw⟩
  have tr := T i _ H Ho' e' z' fun r hrr => List.mem_append_right _ (hr r hrr)
  by_cases hlt : i < xs.length
  · refine .inr ?_
    have hxi := List.getElem?_eq_getElem hlt
    obtain ⟨go, yl⟩ := tr.1 _ hxi
    refine ⟨go, fun H' => ∃ (Ho' : Hp) (acc : List β) (acs : List V) (gs : List Grp), Same Ho Ho' ∧ Zs (((Dn, HO.lst acs) :: gs.flatten) ++ rs) H' Ho' ∧ RowO (P K Ho') acs acc gs ∧ acs.length ≤ i + 1 ∧ (comp (xs.drop (i + 1)) acc (fun _ => W.ret true) cf).run fun ys => (f ys).run Φ,
      fun H' hN => ⟨xs.length - (i + 1), by omega, rfl, hlt, hN⟩, fun x H' y => ?_⟩
    obtain ⟨Ho2, e2, z2, dx⟩ := yl x H' y
    rw [drop_cons hxi] at hw
    have hw : (cf xs[i]).run fun y => (comp (xs.drop (i + 1)) (acc ++ [y]) (fun _ => W.ret true) cf).run fun ys => (f ys).run Φ := hw.1 rfl
    refine hx ((Dn, HO.lst acs) :: gs.flatten) _ x H' Ho2 _ _ (e'.trans e2) (z2 _ z') dx ?_
    refine W.mono _ _ _ (fun y hy w gi H'' Ho'' e3 z3 dw => ?_) hw
    have z4 : Zs ((Dn, HO.lst acs) :: (gi ++ (gs.flatten ++ rs))) H'' Ho'' := z3.perm List.perm_middle
    refine ⟨acs, z4.head, by omega, Ho'', acc ++ [y], acs ++ [w], gs ++ [gi], (e'.trans e2).trans e3, ?_, (da.imp fun v x g h => OwnD.mo h (e2.trans e3)).snoc dw, ?_, hy⟩
    · refine z4.put.perm (List.Perm.cons _ ?_)
      rw [List.flatten_append, List.flatten_singleton, ← List.append_assoc]
      exact List.perm_append_comm.append_right _
    · rw [List.length_append]
      exact Nat.succ_le_succ la
  · have e : i = xs.length := by omega
    subst e
    refine .inl ⟨tr.2 (Nat.le_refl _), ?_⟩
    rw [List.drop_length] at hw
    exact k acc (.ref Dn) _ H Ho' e' hw z' ⟨Dn, acs, gs, rfl, da, rfl⟩
end
/-! ### one of several lists, picked -/
inductive LVs {α : Type} [Py α] (K : PySem.W.Frag) (R : Grp) (Ho : Hp) : List V → List (List α) → Prop
  | nil : LVs K R Ho [] []
  | cons {v : V} {x : List α} {vs : List V} {xs : List (List α)} (h : LV K R Ho v x) (t : LVs K R Ho vs xs) : LVs K R Ho (v :: vs) (x :: xs)
section
variable {K : PySem.W.Frag} {H Ho Ho' : Hp} {R rs : Grp} {v w : V} {α γ : Type} [Py α] {Φ : γ → Prop} {Q : VK} {vs : List V} {xss : List (List α)}
theorem LVs.get : ∀ {vs : List V} {xss : List (List α)} {i : Nat} {x : List α}, LVs K R Ho vs xss → xss[i]? = some x → ∃ v, vs[i]? = some v ∧ LV K R Ho v x
  | _, _, i, _, .nil, e => by simp at e
  | _, _, 0, _, .cons a t, e => by cases e; exact ⟨_, rfl, a⟩
  | _, _, i + 1, _, .cons a t, e => t.get (i := i) (by simpa using e)
theorem LVs.len : ∀ {vs : List V} {xss : List (List α)}, LVs K R Ho vs xss → vs.length = xss.length
  | _, _, .nil => rfl
  | _, _, .cons a t => by simp [t.len]
theorem LVs.mo (e : Same Ho Ho') : ∀ {vs : List V} {xss : List (List α)}, LVs K R Ho vs xss → LVs K R Ho' vs xss
  | _, _, .nil => .nil
  | _, _, .cons a t => .cons (a.mo e) (t.mo e)
def Pick {α : Type} [Py α] (K : PySem.W.Frag) (R : Grp) (Ho : Hp) (v : V) (xss : List (List α)) (g : Grp) : Prop := ∃ p vs, v = .ref p ∧ LVs K R Ho vs xss ∧ g = [(p, HO.lst vs)]
theorem k_lstP (z : Zs R H Ho) (l : LVs K R Ho vs xss) (hl : vs.length ≤ sizeLine) (k : ∀ p g H', Zs (g ++ R) H' Ho → Pick K R Ho (.ref p) xss g → Q (.ref p) H') : LstK Q vs H := ⟨hl, fun p hp => k p _ _ (z.root hp) ⟨p, vs, rfl, l, rfl⟩⟩
theorem y_ixPk {i : Int} {g : Grp} {f : List α → W γ} (h : Pick K R Ho v xss g) (m : ∀ r ∈ g, r ∈ rs) (z : Zs rs H Ho) (hw : (W.bind (W.opt (atI xss i)) f).run Φ) (k : ∀ t u, LV K R Ho u t → (f t).run Φ → Q u H) : rIxL K v (.int i) H Q := by
  obtain ⟨x, ex, hw⟩ := hw
  obtain ⟨p, vs, rfl, l, rfl⟩ := h
  obtain ⟨j, ej, hx⟩ := at_ix ex
  obtain ⟨u, hu, lu⟩ := l.get hx
  refine ⟨p, vs, i, u, rfl, rfl, SqL.of (z.rt _ (m _ List.mem_cons_self)).1, ?_, k x u lu hw⟩
  rw [← l.len] at ej
  rw [ix_at ej, hu]
theorem c_unlR2 {β δ : Type} [Py β] [Py δ] {σ : L2.St} {i j : Nat} {x : V} {QS : L2.St → Hp → Prop} {a : α} {b : β} {c : δ} (σ' : V → V → L2.St) (hσ : ∀ v u, (σ.set i (some v)).set j (some u) = σ' v u) (d : Z.D K Ho x a) (hx : toPy a = .list [toPy b, toPy c]) (z : Zs rs H Ho)
    (k : ∀ v u, Z.D K Ho v b → Z.D K Ho u c → QS (σ' v u) H) : gUnl K 2 (gCons (gName i) (gCons (gName j) gNil)) x σ H QS := by
  have d : Dq K Ho x (toPy a) := d
  rw [hx] at d
  cases d with
  | lst hs ha =>
    cases ha with
    | cons h1 h2 =>
      cases h2 with
      | cons h2 h3 =>
        cases h3
        exact ⟨_, _, rfl, z.le.seq hs, rfl, _, _, rfl, _, _, rfl, rfl, by rw [hσ]; exact k _ _ h1 h2⟩
end
/-! ### None, told of data of any kind -/
def pyNone : PyData → Bool
  | .none => true
  | _ => false
theorem dec_nonP {K : PySem.W.Frag} {Ho : Hp} {v : V} {x : PyData} (d : Z.D K Ho v x) : decide (v = V.non) = pyNone x := by
  have d : Dq K Ho v x := d
  cases d <;> first | rfl | exact decide_eq_false (fun e => by cases e)
/-! ### methods of instances that stand for good; lists whose places are fields -/
section
variable {K : PySem.W.Frag} {H Ho : Hp} {rs R : Grp} {v w : V} {Q : VK} {QH : Hp → Prop} {q a : Addr} {cn m : Str} {ns : List Str} {G : V → Hp → Prop} {vs : List V} {i : Int} {j : Nat}
theorem o_metD {α : Type} [Py α] {x : α} {ds : List PyData} (c : CF K q cn ns) (d : Z.D K Ho v x) (hx : toPy x = pyIns cn ns ds) (z : Zs rs H Ho) (hn : m ∉ ns) (k : G v H) : MetK q m G v H := by
  obtain ⟨a, C, dx, vs, rfl, hC, hs, ha⟩ := dq_ins d hx
  obtain rfl := c.eq hC
  exact ⟨a, dx, _, rfl, z.le _ _ hs, lk_none hn, k⟩
theorem lr_ix (hm : ∀ r ∈ ([(a, HO.lst vs)] : Grp), r ∈ rs) (z : Zs rs H Ho) (h : atI vs i = some v) (k : Q v H) : rIxL K (.ref a) (.int i) H Q :=
  ⟨a, vs, i, v, rfl, rfl, SqL.of (z.rt _ (hm _ List.mem_cons_self)).1, h, k⟩
theorem lr_ixD {α β : Type} [Py α] [Py β] {x : α} {y : β} {ds : List PyData} (d : Z.D K Ho v x) (hx : toPy x = .list ds) (h : atI ds i = some (toPy y)) (z : Zs rs H Ho) (k : ∀ u, Z.D K Ho u y → Q u H) : rIxL K v (.int i) H Q := by
  have d : Dq K Ho v (toPy x) := d
  rw [hx] at d
  cases d with
  | lst hs ha =>
    obtain ⟨u, hu, du⟩ := atI_dqG ha h
    exact ⟨_, _, i, u, rfl, rfl, z.le.seq hs, hu, k u du⟩
theorem lr_st (z : Zs ([(a, HO.lst vs)] ++ R) H Ho) (h : ixN vs.length i = some j) (k : ∀ H', Zs ([(a, HO.lst (vs.set j w))] ++ R) H' Ho → QH H') : rSetL (.ref a) (.int i) w H QH :=
  ⟨a, vs, i, j, rfl, rfl, Zs.head z, h, k _ (Zs.put z)⟩
theorem k_lstR (z : Zs R H Ho) (hl : vs.length ≤ sizeLine) (k : ∀ p H', Zs ([(p, HO.lst vs)] ++ R) H' Ho → Q (.ref p) H') : LstK Q vs H := ⟨hl, fun p hp => k p _ (z.root hp)⟩
theorem zop_inT {X : Cx} (hK : X.K = K) : OpR X (compareOp .In) (rIn K false) := hK ▸ op_in_seq
theorem inV_strs {a : Str} : ∀ {ss : List Str}, inV (.str a) (ss.map V.str) = decide (a ∈ ss)
  | [] => by simp [inV]
  | s :: ss => by
    have ih := inV_strs (a := a) (ss := ss)
    unfold inV at ih ⊢
    rw [List.map_cons, List.any_cons, ih]
    have e : eqV (.str s) (.str a) = decide (s = a) := rfl
    rw [e]
    by_cases c : s = a
    · subst c; simp
    · have : a ≠ s := fun e => c e.symm
      simp [c, this]
theorem flat_strs : ∀ {ss : List Str}, (ss.map V.str).all flatV = true
  | [] => rfl
  | s :: ss => by rw [List.map_cons, List.all_cons, flat_strs]; rfl
theorem dq_strs {H : Hp} : ∀ {vs : List V} {ss : List Str}, DqAll K H vs (ss.map PyData.str) → vs = ss.map V.str
  | [], [], _ => rfl
  | [], _ :: _, h => by cases h
  | _ :: _, [], h => by cases h
  | v :: vs, s :: ss, h => by
    cases h with
    | cons h1 h2 =>
      cases h1
      rw [dq_strs h2]; rfl
theorem y_inT {α : Type} [Py α] {x : α} {a : Str} {ss : List Str} (d : Z.D K Ho w x) (hx : toPy x = .tuple (ss.map .str)) (z : Zs rs H Ho) (k : Q (.bl (decide (a ∈ ss))) H) : rIn K false (.str a) w H Q := by
  have d : Dq K Ho w (toPy x) := d
  rw [hx] at d
  cases d with
  | tup hs ha =>
    rw [dq_strs ha] at hs
    refine ⟨_, _, rfl, .inr (SqT.of (z.le _ _ hs)), rfl, flat_strs, ?_⟩
    rw [if_neg Bool.false_ne_true, inV_strs]
    exact k
/-! self.f += n -/
def FAugK (K : PySem.W.Frag) (tv : TE) (rd : V → V → Hp → VK → Prop) (f : Str) (N : Hp → Prop) (σ : L2.St) (x : V) (H1 : Hp) : Prop := ∃ a C dx fs v, x = .ref a ∧ H1 a = some (.ins C dx fs) ∧ Cls K C ∧ NoAttr K C f ∧ fs.lookup f = some v ∧
  tv σ H1 fun y H2 => rd v y H2 fun z H3 => ∃ dx' fs', H3 a = some (.ins C dx' fs') ∧ fs'.length < 1000 ∧ N (upd H3 a (.ins C dx' (putF f z fs')))
theorem zps_fldaug {X : Cx} {ta tv : TE} {op : Operator} {rd : V → V → Hp → VK → Prop} {o value : Expr} {f : Str} {pos tpos : Pos} (hK : X.K = K) (ha : PE X o ta) (hv : PE X value tv) (hop : InOp X op rd) : PS X (.AugAssign (.Attribute o f tpos) op value pos) (sFldAug K ta tv rd f) := hK ▸ ps_fldaug ha hv hop
theorem y_fldaug {ta tv : TE} {rd : V → V → Hp → VK → Prop} {f : Str} {u : TS} {D : Ends} {σ : L2.St} (k : ta σ H fun x H1 => FAugK K tv rd f (fun H' => u D σ H') σ x H1) : tSeq (sFldAug K ta tv rd f) u D σ H := k
theorem o_faug {σ : L2.St} {N : Hp → Prop} {f : Str} {dx : Addr} {n m : Int} (c : CF K q cn ns) (z : Zs ([(a, HO.ins q dx (ns.zip vs))] ++ R) H Ho) (hn : ns[j]? = some f) (hv : vs[j]? = some (.int n)) (k : ∀ H', Zs ([(a, HO.ins q dx (ns.zip (vs.set j (.int (n + m)))))] ++ R) H' Ho → N H') :
    FAugK K (tC (.int m)) rAdd f N σ (.ref a) H := by
  have hf := List.mem_of_getElem? hn
  refine ⟨a, q, dx, _, .int n, rfl, Zs.head z, c.cl, c.na f hf, lk_zip c.nd hn hv, ?_⟩
  refine ⟨n, m, rfl, rfl, dx, _, Zs.head z, len_zip_few c, ?_⟩
  rw [put_zip c.nd hn (List.getElem?_eq_some_iff.mp hv).1]
  exact k _ (Zs.put z)
theorem l_any2 {G : V → Prop} (k : G v) : LetV G v := k
/-- text.index(sign) -/
def sIdx (a b : Str) : Option Int := match Builtin.Str.occurrences a b 0 a.length 1 with
  | i :: _ => some (i : Int)
  | [] => none
def rSIdx : V → List V → Hp → VK → Prop := fun x xs H Q => ∃ a b i rest, x = .str a ∧ xs = [.str b] ∧ Builtin.Str.occurrences a b 0 a.length 1 = i :: rest ∧ Q (.int (i : Nat)) H
theorem zmt_sindex {X : Cx} : MtR X "str.index" rSIdx := mt_sindex
theorem y_sindex {a b : Str} {γ : Type} {f : Int → W γ} {Φ : γ → Prop} (hw : (W.bind (W.opt (sIdx a b)) f).run Φ) (k : ∀ t, (f t).run Φ → Q (.int t) H) : rSIdx (.str a) [.str b] H Q := by
  obtain ⟨t, e, hw⟩ := hw
  unfold sIdx at e
  split at e
  · rename_i i rest h
    cases e
    exact ⟨a, b, i, rest, rfl, rfl, h, k _ hw⟩
  · cases e
end
end Z

/-! # classes whose __init__ has a default (None); zip of data of any kind -/
namespace L2
open PySem PySem.Spec PyProof.Rows
section
variable {P : Program} {w : World} {K : PySem.W.Frag} {mg : Str → Option Value} {base : Heap} {x qual : Str} {params : Arguments} {body : List Stmt} {scope : Scope} {dvs : List V} {kws : List (Str × V)} {f T : Addr} {fd : FuncData} {d : V} {a b c : Str}
theorem fund_mkN {st : Stmt} {oc : Value} {od an : Option Addr} {osl : Array (Option Value)} {kV doc pm cdv ct tc : Value} {td : Option Addr} {tn : Nat} {tsl : Array (Option Value)}
    (l : K.lookup f = some ⟨oc, od, .func (PySem.W.fnOf x qual (defArgs st) (defBody st) (defScope st) (.ref T) kV doc pm an cdv ct), osl⟩)
    (c : PySem.W.codeIn K cdv qual = true) (k : PySem.W.keepIn K (.ref f) = true) (t : K.lookup T = some ⟨tc, td, .seq #[.none] tn, tsl⟩) : FunD K x qual (defArgs st) (defBody st) (defScope st) [V.non] [] f (PySem.W.fnOf x qual (defArgs st) (defBody st) (defScope st) (.ref T) kV doc pm an cdv ct) :=
  ⟨⟨oc, od, _, kV, doc, pm, an, cdv, ct, osl, rfl, l, c, .inr ⟨by simp, T, _, [.none], tn, rfl, t, rfl, .cons rfl .nil⟩, .inl rfl⟩, k⟩
theorem FunD.posN {ps : List Str} (n : Nat) (hn : ps.length = n) (F : FunD K x qual params body scope [d] [] f fd)
    (h : ∀ (T : Addr) (kV doc pm : Value) (an : Option Addr) (cdv ct : Value) (us its : List Value), us.length = n → its.length = 1 →
      ∃ k, bindArgs (PySem.W.fnOf x qual params body scope (.ref T) kV doc pm an cdv ct) ⟨us, []⟩ = seqItems? (.ref T) >>= k ∧ k (some its.toArray) = pure (ps.zip (us ++ its.drop 1))) : Binds K fd ps [] := by
  obtain ⟨ds, r, hb⟩ := F.binds1 (ps := ps) n 1 (by simp) (by simp [hn]) h
  cases r
  exact hb
theorem FunD.dflN {ps : List Str} (n : Nat) (hn : ps.length = n + 1) (F : FunD K x qual params body scope [V.non] [] f fd)
    (h : ∀ (T : Addr) (kV doc pm : Value) (an : Option Addr) (cdv ct : Value) (us its : List Value), us.length = n → its.length = 1 →
      ∃ k, bindArgs (PySem.W.fnOf x qual params body scope (.ref T) kV doc pm an cdv ct) ⟨us, []⟩ = seqItems? (.ref T) >>= k ∧ k (some its.toArray) = pure (ps.zip (us ++ its.drop 0))) : Binds K fd ps [Value.none] := by
  obtain ⟨ds, r, hb⟩ := F.binds1 (ps := ps) n 0 (by simp) (by simp [hn]) h
  have : ds = [Value.none] := by
    cases r with
    | cons h t =>
      cases t
      cases h
      rfl
  rw [this] at hb
  exact hb
theorem FunD.kwN {ps : List Str} {b : Str} (n : Nat) (F : FunD K x qual params body scope [d] [] f fd)
    (h : ∀ (T : Addr) (kV doc pm : Value) (an : Option Addr) (cdv ct : Value) (us its ws : List Value), us.length = n → its.length = 1 → ws.length = 1 →
      ∃ k, bindArgs (PySem.W.fnOf x qual params body scope (.ref T) kV doc pm an cdv ct) ⟨us, [b].zip ws⟩ = seqItems? (.ref T) >>= k ∧ k (some its.toArray) = pure (ps.zip (us ++ ws))) :
    KBn K fd ps n [b] (fun us ws => us ++ ws) (fun vs zs => vs ++ zs) := by
  obtain ⟨oc, od, dV, kV, doc, pm, an, cdv, ct, osl, rfl, lk, hcd, hD, hK⟩ := F.ex
  rcases hD with ⟨e, _⟩ | ⟨_, T, o, its, m, rfl, lT, oT, rT⟩
  · cases e
  · refine ⟨fun s us ws X l1 l2 => ?_, fun r1 r2 => r1.append r2⟩
    obtain ⟨k, e1, e2⟩ := h T kV doc pm an cdv ct us its ws l1 rT.length.symm l2
    refine BindsTo.of_looks fun M => ?_
    rw [e1]
    exact looks_items X lT oT (.of_pure e2)
end
end L2
namespace Z
open PySem PySem.Spec PyProof.Rows L2
def tMakeSd (C : Addr) (sp : Sp) (dvs : List V) (E : L2.St → XK) (t : TA) : TE := fun σ H Q => t σ H fun vs H1 => MkK C (fun x H2 => sp (x :: (vs ++ dvs)) H2 (fun v H3 => v = .non ∧ Q x H3) (E σ)) H1
def tMakeNS (C : Addr) (sp : Sp) (E : L2.St → XK) (t tk : TA) (n m : Nat) : TE := fun σ H Q => t σ H fun vs H1 => tk σ H1 fun zs H2 => vs.length = n ∧ zs.length = m ∧ MkK C (fun x H3 => sp (x :: (vs ++ zs)) H3 (fun v H4 => v = .non ∧ Q x H4) (E σ)) H2
section
variable {X : Cx} {CX : CXT} {k n : Nat} {f C : Addr} {fd : FuncData} {ps ks : List Str} {sp : Sp} {E : L2.St → XK} {x m : Str} {p pos apos : Pos} {e o : Expr} {es : List Expr} {kws : List Keyword} {ta : TE} {t tk : TA} {ds : List Value} {dvs : List V}
theorem run_makeSd {pins : List (Addr × Obj)} {σ : L2.St} {H : Hp} {s : Shared} {Q : VK} {us : List Value} {vs : List V} (M : Mk X.K C f) (F : FnOk X.prog X.w X.K X.mg X.base CX k f fd ps sp) (hr : Room (k + 1) X.A) (hb : Binds X.K fd ps ds) (hd : Vals dvs ds)
    (hx : PassesAt CX X σ (E σ)) (I : Inv X pins σ H s) (r : Vals vs us) (h : MkK C (fun x H2 => sp (x :: (vs ++ dvs)) H2 (fun v H3 => v = .non ∧ Q x H3) (E σ)) H) :
    wpAny (model X.prog X.w) X.A (call (.ref C) us) (EP X pins σ Q) X.xe s := by
  have hq := h (s.heap.objs.size + 1) s.heap.objs.size (I.hok.fresh (Nat.le_succ _)) (I.hok.fresh (Nat.le_refl _)) (Nat.ne_of_lt (Nat.lt_succ_self _))
  have I2 := Inv.made (C := C) I
  have r2 : Vals (V.ref (s.heap.objs.size + 1) :: (vs ++ dvs)) (Value.ref (s.heap.objs.size + 1) :: us ++ ds) := .cons rfl (r.append hd)
  have hl : (Value.ref (s.heap.objs.size + 1) :: us ++ ds).length = ps.length := by
    have e := r2.length
    rw [F.len _ _ _ _ hq] at e
    exact e.symm
  have hb' := hb _ (Value.ref (s.heap.objs.size + 1) :: us) I2.kIn hl
  refine wpAny_call (make_map (f := f) I.kIn M.makes M.init (beq_iff_eq.mp M.fn) (codeAny_mono (F.run _ X.stack _ _ ⟨Value.ref (s.heap.objs.size + 1) :: us, []⟩ (Value.ref (s.heap.objs.size + 1) :: us ++ ds) _ _ (E σ) (hr.make C us [])
    (I2.env0.make C us []) hb' r2 hq) fun r s' hq' => ?_))
  cases r with
  | error e => exact hx pins _ _ e s' I2 hq'
  | ok fl =>
    cases fl with
    | ret u =>
      obtain ⟨v, H', I3, rv, ev, q3⟩ := I2.after hq'
      subst ev
      exact ⟨rv, ⟨V.ref (s.heap.objs.size + 1), H', I3, rfl, q3⟩⟩
    | next => exact False.elim hq'
    | brk => exact False.elim hq'
    | cont => exact False.elim hq'
theorem pe_makeSd (M : Mk X.K C f) (F : FnOk X.prog X.w X.K X.mg X.base CX k f fd ps sp) (hr : Room (k + 1) X.A) (hg : Gl X x) (hm : X.mg x = some (.ref C)) (hb : Binds X.K fd ps ds) (hd : Vals dvs ds) (hx : ∀ σ, PassesAt CX X σ (E σ))
    (ha : PA X (e :: es) t) (hdb : (x == ("__debug__" : Str)) = false := by decide) (he : starEach (e :: es) X.env = (false, eval e X.env) :: starEach es X.env := by rfl) (hpl : (backTo pos (starEach es X.env)).any (·.1) = false := by rfl) :
    PE X (.Call (.Name x p) (e :: es) [] pos) (tMakeSd C sp dvs E t) := by
  refine ⟨fun pins s σ H Q I h => ?_⟩
  refine wpAny_Call_Name_kw (ld_glob I hg hm ?_ hdb)
  refine PySem.W.callWith_K (h₀ := X.base) I.ok.mod.kin M.kp (thn (ha.run pos pins s σ H _ I h) fun us s1 ⟨vs, H1, I1, r, q⟩ => ⟨I1.kIn, ?_⟩) he hpl
  exact run_makeSd M F hr hb hd (hx σ) I1 r q
theorem run_makeNS {pins : List (Addr × Obj)} {σ : L2.St} {H : Hp} {s : Shared} {Q : VK} {us ws : List Value} {vs zs : List V} (M : Mk X.K C f) (F : FnOk X.prog X.w X.K X.mg X.base CX k f fd ps sp) (hr : Room (k + 1) X.A) (hb : KBn X.K fd ps (n + 1) ks (fun us ws => us ++ ws) (fun vs zs => vs ++ zs))
    (hx : PassesAt CX X σ (E σ)) (I : Inv X pins σ H s) (r : Vals vs us) (rz : Vals zs ws) (l1 : vs.length = n) (l2 : zs.length = ks.length) (h : MkK C (fun x H3 => sp (x :: (vs ++ zs)) H3 (fun v H4 => v = .non ∧ Q x H4) (E σ)) H) :
    wpAny (model X.prog X.w) X.A (call (.ref C) us (ks.zip ws)) (EP X pins σ Q) X.xe s := by
  have hq := h (s.heap.objs.size + 1) s.heap.objs.size (I.hok.fresh (Nat.le_succ _)) (I.hok.fresh (Nat.le_refl _)) (Nat.ne_of_lt (Nat.lt_succ_self _))
  have I2 := Inv.made (C := C) I
  have r1 : Vals (V.ref (s.heap.objs.size + 1) :: vs) (Value.ref (s.heap.objs.size + 1) :: us) := .cons rfl r
  have r2 := hb.rel r1 rz
  have e1 : (Value.ref (s.heap.objs.size + 1) :: us).length = n + 1 := r1.length.symm.trans (congrArg Nat.succ l1)
  have e2 : ws.length = ks.length := rz.length.symm.trans l2
  refine wpAny_call (make_map (f := f) I.kIn M.makes M.init (beq_iff_eq.mp M.fn) (codeAny_mono (F.run _ X.stack _ _ ⟨Value.ref (s.heap.objs.size + 1) :: us, ks.zip ws⟩ ((Value.ref (s.heap.objs.size + 1) :: us) ++ ws) _ _ (E σ) (hr.make C us (ks.zip ws))
    (I2.env0.make C us (ks.zip ws)) (hb.to _ (Value.ref (s.heap.objs.size + 1) :: us) ws I2.kIn e1 e2) r2 hq) fun r s' hq' => ?_))
  cases r with
  | error e => exact hx pins _ _ e s' I2 hq'
  | ok fl =>
    cases fl with
    | ret u =>
      obtain ⟨v, H', I3, rv, ev, q3⟩ := I2.after hq'
      subst ev
      exact ⟨rv, ⟨V.ref (s.heap.objs.size + 1), H', I3, rfl, q3⟩⟩
    | next => exact False.elim hq'
    | brk => exact False.elim hq'
    | cont => exact False.elim hq'
theorem pe_makeNS (M : Mk X.K C f) (F : FnOk X.prog X.w X.K X.mg X.base CX k f fd ps sp) (hr : Room (k + 1) X.A) (hg : Gl X x) (hm : X.mg x = some (.ref C)) (hb : KBn X.K fd ps (n + 1) ks (fun us ws => us ++ ws) (fun vs zs => vs ++ zs)) (hx : ∀ σ, PassesAt CX X σ (E σ))
    (ha : PA X (e :: es) t) (hkw : PK X kws tk) (hall : (backToKw pos (keywordEach kws X.env)).all (·.1.isSome) = true := by rfl) (hks : (backToKw pos (keywordEach kws X.env)).filterMap (·.1) = ks := by rfl)
    (hdb : (x == ("__debug__" : Str)) = false := by decide) (he : starEach (e :: es) X.env = (false, eval e X.env) :: starEach es X.env := by rfl)
    (hpl : ((backTo pos (starEach (e :: es) X.env)).any (·.1) || (backToKw pos (keywordEach kws X.env)).any (·.1.isNone)) = false := by rfl) :
    PE X (.Call (.Name x p) (e :: es) kws pos) (tMakeNS C sp E t tk n ks.length) := by
  refine ⟨fun pins s σ H Q I h => ?_⟩
  refine wpAny_Call_Name_kw (ld_glob I hg hm ?_ hdb)
  refine PySem.W.callWith_KW (h₀ := X.base) I.ok.mod.kin M.kp hall (thn (ha.run pos pins s σ H _ I h) fun us s1 ⟨vs, H1, I1, r, q⟩ => ?_) hpl he
  refine thn (hkw.run pos pins s1 σ H1 _ I1 q) fun ws s2 ⟨zs, H2, I2, rz, l1, l2, q2⟩ => ⟨I2.kIn, ?_⟩
  rw [hks]
  exact run_makeNS M F hr hb (hx σ) I2 r rz l1 l2 q2
end
section
variable {K : PySem.W.Frag} {H Ho : Hp} {rs : Grp} {v u : V} {Q : VK} {σ : L2.St} {C : Addr} {sp : Sp} {E : L2.St → XK} {t tk ts : TA} {dvs : List V} {n m : Nat} {R : It → Hp → Prop}
theorem y_makeD (k : t σ H fun vs H1 => MkK C (fun x H2 => sp (x :: (vs ++ dvs)) H2 (fun v H3 => v = .non ∧ Q x H3) (E σ)) H1) : tMakeSd C sp dvs E t σ H Q := k
theorem y_makeN (k : t σ H fun vs H1 => tk σ H1 fun zs H2 => vs.length = n ∧ zs.length = m ∧ MkK C (fun x H3 => sp (x :: (vs ++ zs)) H3 (fun v H4 => v = .non ∧ Q x H4) (E σ)) H2) : tMakeNS C sp E t tk n m σ H Q := k
/-! zip of two lists or two tuples of any kind -/
def pyZip : PyData → PyData → Option (List (PyData × PyData))
  | .list xs, .list ys => some (xs.zip ys)
  | .tuple xs, .tuple ys => some (xs.zip ys)
  | _, _ => none
def SrcZA (K : PySem.W.Frag) (R : It → Hp → Prop) (vs : List V) (H : Hp) : Prop := ∃ a b xs ys, vs = [.ref a, .ref b] ∧ ((SqL K H a xs ∧ SqL K H b ys ∧ R (Itz K a b) H) ∨ (SqT K H a xs ∧ SqT K H b ys ∧ R (RZ.ItzT K a b) H))
theorem k_iZipA (k : ts σ H fun vs H1 => SrcZA K R vs H1) : RZ.iZipA K ts σ H R := k
theorem zpi_zipA {X : Cx} {e e2 : Expr} {ta : TA} {p pos tpos : Pos} {elts : List Expr} {kk : Nat} (hK : X.K = K) (hg : Gl X "zip") (hm : X.mg "zip" = none) (ha : PA X [e, e2] ta)
    (hs : starEach [e, e2] X.env = (false, eval e X.env) :: starEach [e2] X.env := by rfl) (hpl : (backTo pos (starEach [e2] X.env)).any (·.1) = false := by rfl) :
    PI X (.Tuple elts kk tpos) (.Call (.Name "zip" p) [e, e2] [] pos) (RZ.iZipA K ta) := hK ▸ RZ.pi_zipA hg hm ha hs hpl
theorem trn_zipT {a b : Addr} {xs ys : List V} {ds es : List PyData} (ha : Ho a = some (.tup xs)) (hb : Ho b = some (.tup ys)) (da : DqAll K Ho xs ds) (db : DqAll K Ho ys es) : Trn K [] (RZ.ItzT K a b) (ds.zip es) Ho := by
  intro i rs' H' Ho' e z sub
  have sa : SqT K H' a xs := SqT.of (z.le _ _ (e _ _ ha))
  have sb : SqT K H' b ys := SqT.of (z.le _ _ (e _ _ hb))
  refine ⟨fun p hp => ?_, fun hl => ⟨xs, ys, sa, sb, ?_⟩⟩
  · obtain ⟨hx, hy⟩ := List.getElem?_zip_eq_some.mp hp
    obtain ⟨x, ex, dx⟩ := dpAll_get da hx
    obtain ⟨y, ey, dy⟩ := dpAll_get db hy
    refine ⟨⟨xs, ys, x, y, sa, sb, ex, ey⟩, fun t H'' yy => ?_⟩
    obtain ⟨T, x', y', rfl, hT, rfl, qx, qy⟩ := yy
    have e1 : x' = x := Option.some.inj ((qx _ sa).symm.trans ex)
    have e2 : y' = y := Option.some.inj ((qy _ sb).symm.trans ey)
    subst e1 e2
    have e3 : Same Ho' (upd Ho' T (.tup [x', y'])) := Same.new (z.free hT)
    exact ⟨_, e3, fun _ z => z.alloc hT, .tup upd_same (.cons (dp_mono e3 _ _ (dp_mono e _ _ dx)) (.cons (dp_mono e3 _ _ (dp_mono e _ _ dy)) .nil))⟩
  · rw [List.length_zip] at hl
    rw [dpAll_len da, dpAll_len db]
    omega
theorem py_list {xs : List PyData} (d : Z.D K Ho v (PyData.list xs)) : Z.D K Ho v xs := by
  have e : toPy xs = PyData.list xs := by
    show PyData.list (xs.map id) = _
    rw [List.map_id]
  show Dq K Ho v (toPy xs)
  rw [e]
  exact d
theorem k_srcZA {x y : PyData} {γ : Type} {f : List (PyData × PyData) → W γ} {Φ : γ → Prop} (d : Z.D K Ho v x) (d' : Z.D K Ho u y) (z : Zs rs H Ho) (hw : (W.bind (W.opt (pyZip x y)) f).run Φ) (k : ∀ J ps, Trn K [] J ps Ho → (f ps).run Φ → R J H) : SrcZA K R [v, u] H := by
  obtain ⟨ps, e, hw⟩ := hw
  unfold pyZip at e
  split at e
  · rename_i xs ys
    cases e
    have h1 : LV K [] Ho v xs := LV.of (py_list d)
    have h2 : LV K [] Ho u ys := LV.of (py_list d')
    obtain ⟨a, vs, rfl, d1, s1⟩ := id h1
    obtain ⟨b, us, rfl, d2, s2⟩ := id h2
    exact ⟨a, b, vs, us, rfl, .inl ⟨src_stay s1 (Same.refl _) z (fun r h => nomatch h), src_stay s2 (Same.refl _) z (fun r h => nomatch h), k _ _ (trn_zip h1 rfl h2 rfl) hw⟩⟩
  · rename_i xs ys
    cases e
    have d : Dq K Ho v (.tuple xs) := d
    have d' : Dq K Ho u (.tuple ys) := d'
    cases d with
    | tup ha da =>
      cases d' with
      | tup hb db =>
        exact ⟨_, _, _, _, rfl, .inr ⟨SqT.of (z.le _ _ ha), SqT.of (z.le _ _ hb), k _ _ (trn_zipT ha hb da db) hw⟩⟩
  · cases e
end
end Z

/-! # an error that is caught and kept: the rest of the block knows it -/
namespace L2
open PySem PySem.Spec PyProof.Rows
/-- what the clause wishes of an exception of the body, the rest of the block behind it -/
def wKeep (K : PySem.W.Frag) (c : Value) (i : Nat) (ts tr : Addr → Value → Option Addr → TS) (Wout : WX) (D : Ends) : WX := fun cls d σ H =>
  ∃ b, PySem.W.exmOne K cls c = some b ∧ (b = true → ∀ a, H a = none → ts a cls d { nx := fun σ' H' => tr a cls d D (σ'.set i none) H', rt := fun _ _ => False, bk := fun _ _ => False, ct := fun _ _ => False } (σ.set i (some (.ref a))) H) ∧
    (b = false → Wout cls d σ H)
section
variable {X : Cx} {pins : List (Addr × Obj)} {σ : St} {H : Hp} {s : Shared}
theorem Inv.keepS {a : Addr} {pn : List (Addr × Obj)} {pn' : List (Addr × Obj)} (I : Inv (X.suite a pn) pn' σ H s) (ok : X.Ok) : Inv (X.tr pn X.xe) pn' σ H s :=
  ⟨ok.toTry _ _, I.os, I.bare, I.base, I.loc, I.cell, I.free, I.freeC, I.pin, I.hok, I.len⟩
theorem Inv.unkeep {q : Addr × Obj} {pn' : List (Addr × Obj)} (I : Inv (X.tr (q :: (X.pn ++ pins)) X.xe) pn' σ H s) (ok : X.Ok) : Inv X pins σ H s :=
  ⟨ok, I.os, I.bare, I.base, I.loc, I.cell, I.free, I.freeC, fun p hp => I.pin p (List.mem_append_left _ (List.mem_cons_of_mem _ hp)), I.hok, I.len⟩
end
section
variable {X : Cx} {x n : Str} {c : Value} {i : Nat} {body suite rest : List Stmt} {b₀ : Stmt} {np pos pos' : Pos} {tb : WX → TS} {ts tr : Addr → Value → Option Addr → TS} {Wout : WX}
theorem pss_try_keep (hs : X.stack = X.env :: X.outer) (hf : X.env.frame = some X.env.locals) (hN : X.N.Nodup) (hi : X.N[i]? = some n) (hln : X.env.kindOf n = some .local) (hc : Names X x c) (tk : Takes X Wout)
    (hb : ∀ (W : WX) (pn : List (Addr × Obj)) (xe : Value → Shared → Prop), Takes (X.tr pn xe) W → PassesOwn (model X.prog X.w) X.A X.env xe → PSs (X.tr pn xe) body (tb W))
    (hsu : ∀ (a : Addr) (oe : Obj) (cls : Value) (d : Option Addr) (pn : List (Addr × Obj)), Zc cls d oe → (∃ vs, oe.data = .fields vs) → PSs (X.suite a ((a, oe) :: pn)) (b₀ :: suite) (ts a cls d))
    (hr : ∀ (a : Addr) (oe : Obj) (cls : Value) (d : Option Addr) (pn : List (Addr × Obj)), Zc cls d oe → (∃ vs, oe.data = .fields vs) → PSs (X.tr ((a, oe) :: pn) X.xe) rest (tr a cls d)) :
    PSs X (.Try body [.ExceptHandler (some (.Name x np)) (some n) (b₀ :: suite) pos'] [] [] pos :: rest) (fun D σ H => tb (wKeep X.K c i ts tr Wout D) { D with nx := fun _ _ => False } σ H) := by
  refine ⟨fun pins s σ H D I h => ?_⟩
  have ok := I.ok
  have hfr : X.A.frames = some (X.env :: X.outer) := by rw [ok.frames, hs]
  have hloc : Loc X.env.scope n := .inl hln
  suffices go : ∀ QQ : Flow → Shared → Prop, (∀ {s'}, wpAny (model X.prog X.w) X.A (execs rest X.env) (SP X pins D) X.xe s' → QQ .next s') → (∀ {s'}, SP X pins D .brk s' → QQ .brk s') → (∀ {s'}, SP X pins D .cont s' → QQ .cont s') → (∀ {u s'}, SP X pins D (.ret u) s' → QQ (.ret u) s') →
      wpAny (model X.prog X.w) X.A (exec (.Try body [.ExceptHandler (some (.Name x np)) (some n) (b₀ :: suite) pos'] [] [] pos) X.env) QQ X.xe s from
    wpAny_execs_cons (go _ (fun z => z) (fun z => z) (fun z => z) (fun z => z))
  intro QQ q_nx q_brk q_cont q_ret
  refine wpAny_Try_except ?_
  refine wpAny_mono ((hb (wKeep X.K c i ts tr Wout D) (X.pn ++ pins) (fun e s₁ => wpAny (model X.prog X.w) X.A (noteFrame e X.env) (fun _ s₂ => wpAny (model X.prog X.w) X.A (setFlight e none) (fun _ s₃ =>
    wpAny (model X.prog X.w) X.A (handleBy e X.env [.ExceptHandler (some (.Name x np)) (some n) (b₀ :: suite) pos']) QQ X.xe s₃) X.xe s₂) X.xe s₁) (fun u s' xx => ?_) PassesOwn.looking).run [] s σ H { D with nx := fun _ _ => False } (I.toTry _) h) (fun f s1 hsp => ?_) (fun e s1 he => he)
  · -- the catch
    obtain ⟨a, B, sI, pins', σ', H', cls, d, rfl, J', nb, up, sky, na, os, ag, b, hb1, hyes, hno⟩ := xx
    have J : Inv X pins σ' H' sI := J'.ofTry ok
    have sky' : Sky B (X.env :: X.outer) a (Zc cls d) X.env.locals s'.heap := by rw [← hs]; exact sky
    show wpAny (model X.prog X.w) X.A (noteFrame (.ref a) X.env) _ _ _
    refine Sky.land Zc.steady hfr hf sky' fun h3 fl3 up3 => ?_
    have J3 : Inv X pins σ' H' { s' with heap := h3 } := J.landed nb fl3.1 (up.trans up3) os ag
    obtain ⟨oe3, vs3, he3, hz3, hd3⟩ := fl3.there
    have notFr : ∀ {h : Heap} {o : Obj} {vs : Array Value}, h.FunFrames B (X.env :: X.outer) → h.get? a = some o → o.data = .fields vs → a ∉ frs (X.env :: X.outer) := fun {h o vs} ff e dd hm => by
      obtain ⟨_, o', e', hnf⟩ := ff.mem hm
      rw [e] at e'; cases e'
      exact hnf _ dd
    have nfr := notFr fl3.2.2.1 he3 hd3
    have nL : a ≠ X.env.locals := fun z => nfr (List.mem_filterMap.mpr ⟨X.env, List.mem_cons_self, by rw [hf, z]⟩)
    have nF : a ∉ X.fs := fun hm => by
      obtain ⟨e, he, q⟩ := List.mem_filterMap.mp hm
      exact nfr (List.mem_filterMap.mpr ⟨e, List.mem_cons_of_mem _ he, q⟩)
    have S3 := J3.suite he3 hd3 na nL nF
    refine wpAny_handleBy_cons (codeAny_handlers_test ?_) (by intro q; cases q)
    have LT : PySem.W.Looks (model X.prog X.w) h3 (typeOf (.ref a)) cls := fun A Q E s k q => wpAny_typeOf_ref (k _ _ he3) (by rw [hz3.1]; exact q)
    have LM := PySem.W.exm_one (M := model X.prog X.w) (J3.kIn) LT hb1
    have test : ∀ {Q : Value → Shared → Prop} {E : Value → Shared → Prop}, Q c { s' with heap := h3 } → wpAny (model X.prog X.w) (X.A.mark (some (.ref a))) (eval (.Name x np) X.env) Q E { s' with heap := h3 } := fun {Q E} q => by
      obtain ⟨hg, hdbg, hm | ⟨hm, hv, hnn⟩⟩ := hc
      · exact ld_glob (X := X.suite a ((a, oe3) :: (X.pn ++ pins))) S3 hg hm q hdbg
      · exact ld_blt (X := X.suite a ((a, oe3) :: (X.pn ++ pins))) S3 hg hm hv q hnn hdbg
    refine test (LM.here ?_)
    cases b with
    | true =>
      refine codeAny_handlers_suite_as ?_
      refine HandSPX.lands_againZ fl3 fun h4 fl4 up4 => ?_
      have J4 : Inv X pins σ' H' { s' with heap := h4 } := J.landed nb fl4.1 ((up.trans up3).trans up4) os ag
      obtain ⟨oe4, vs4, he4, hz4, hd4⟩ := fl4.there
      have S4 := J4.suite he4 hd4 na nL nF
      refine store_ok (X := X.suite a ((a, oe4) :: (X.pn ++ pins))) (v := .ref a) S4 hN hi hloc rfl (fun s5 S5 => ?_) (.inr hln)
      refine wpAny_mono ((hsu a oe4 cls d (X.pn ++ pins) hz4 ⟨_, hd4⟩).run [] s5 _ H' _ S5 (hyes rfl a na)) (fun f s6 hsp => ?_) (fun _ _ z => False.elim z)
      have end_ : ∀ {σ6 : St} {H6 : Hp} {Q : Shared → Prop}, Inv (X.suite a ((a, oe4) :: (X.pn ++ pins))) [] σ6 H6 s6 → (∀ s7, Inv (X.tr ((a, oe4) :: (X.pn ++ pins)) X.xe) [] (σ6.set i none) H6 s7 → Q s7) →
          wpAny (model X.prog X.w) X.A (do bindName X.env n .none; unbindBehindTheSuite X.env n pos') (fun _ s7 => Q s7) X.xe s6 := fun {σ6 H6 Q} S6 hq => gone_ok (X := X.tr ((a, oe4) :: (X.pn ++ pins)) X.xe) (S6.keepS ok) hN hi hln hq
      cases f with
      | next =>
        obtain ⟨σ6, H6, S6, q6⟩ := hsp
        refine end_ S6 fun s7 J7 => q_nx ?_
        refine wpAny_mono ((hr a oe4 cls d (X.pn ++ pins) hz4 ⟨_, hd4⟩).run [] s7 _ H6 D J7 q6) (fun f s8 hsp => ?_) (fun _ _ z => z)
        cases f with
        | next => obtain ⟨σ8, H8, S8, q8⟩ := hsp; exact ⟨σ8, H8, S8.unkeep ok, q8⟩
        | brk => obtain ⟨σ8, H8, S8, q8⟩ := hsp; exact ⟨σ8, H8, S8.unkeep ok, q8⟩
        | cont => obtain ⟨σ8, H8, S8, q8⟩ := hsp; exact ⟨σ8, H8, S8.unkeep ok, q8⟩
        | ret u => obtain ⟨v8, σ8, H8, S8, r8, q8⟩ := hsp; exact ⟨v8, σ8, H8, S8.unkeep ok, r8, q8⟩
      | brk =>
        obtain ⟨σ6, H6, S6, q6⟩ := hsp
        exact q6.elim
      | cont =>
        obtain ⟨σ6, H6, S6, q6⟩ := hsp
        exact q6.elim
      | ret u =>
        obtain ⟨v6, σ6, H6, S6, r6, q6⟩ := hsp
        exact q6.elim
    | false =>
      show wpAny _ X.A (handleBy (.ref a) X.env []) _ _ _
      refine wpAny_handleBy_nil ?_
      obtain ⟨k1, k2, k3, oe, vs, T, oT, ts', he, hz, hd, h1, hr⟩ := id fl3
      unfold PySem.passOn
      refine wpAny_bind (wpAny_field he hd h1 ?_)
      rw [if_neg (show ¬ ((Value.ref T == Value.none) = true) from by simp)]
      have fin : wpAny (model X.prog X.w) X.A (setFlight (.ref a) X.env.frame) (fun _ s4 => wpAny (model X.prog X.w) X.A (throw (.ref a) : Sem Flow) QQ X.xe s4) X.xe { s' with heap := h3 } := by
        rw [hf]
        refine HandSPX.setFlight_upZ fl3 fun h4 hh4 up4 => wpAny_throw (tk _ _ ?_)
        exact ⟨a, B, sI, pins, σ', H', cls, d, rfl, J, nb, (up.trans up3).trans up4, .inr (.inr (by rw [hs]; exact hh4)), na, os, ag, hno rfl⟩
      first
        | exact wpAny_bind (wpAny_pure (wpAny_bind fin))
        | exact wpAny_bind fin
  · cases f with
    | next =>
      obtain ⟨σ', H', J', q⟩ := hsp
      exact q.elim
    | brk =>
      obtain ⟨σ', H', J', q⟩ := hsp
      exact q_brk ⟨σ', H', J'.ofTry ok, q⟩
    | cont =>
      obtain ⟨σ', H', J', q⟩ := hsp
      exact q_cont ⟨σ', H', J'.ofTry ok, q⟩
    | ret u =>
      obtain ⟨v, σ', H', J', r, q⟩ := hsp
      exact q_ret ⟨v, σ', H', J'.ofTry ok, r, q⟩
end
end L2
namespace Z
open PySem PySem.Spec PyProof.Rows L2
def tTryKeep (K : PySem.W.Frag) (c : Value) (i : Nat) (tb : WX → TS) (ts tr : Addr → Value → Option Addr → TS) (Wout : WX) : TS := fun D σ H => tb (wKeep K c i ts tr Wout D) { D with nx := fun _ _ => False } σ H
section
variable {X : Cx} {K : PySem.W.Frag} {x n : Str} {c : Value} {i : Nat} {body suite rest : List Stmt} {b₀ : Stmt} {np pos pos' : Pos} {tb : WX → TS} {ts tr : Addr → Value → Option Addr → TS} {Wout : WX}
theorem zpss_try_keep (hK : X.K = K) (hs : X.stack = X.env :: X.outer) (hf : X.env.frame = some X.env.locals) (hN : X.N.Nodup) (hi : X.N[i]? = some n) (hln : X.env.kindOf n = some .local) (hc : Names X x c) (tk : Takes X Wout)
    (hb : ∀ (W : WX) (pn : List (Addr × Obj)) (xe : Value → Shared → Prop), Takes (X.tr pn xe) W → PassesOwn (model X.prog X.w) X.A X.env xe → PSs (X.tr pn xe) body (tb W))
    (hsu : ∀ (a : Addr) (oe : Obj) (cls : Value) (d : Option Addr) (pn : List (Addr × Obj)), Zc cls d oe → (∃ vs, oe.data = .fields vs) → PSs (X.suite a ((a, oe) :: pn)) (b₀ :: suite) (ts a cls d))
    (hr : ∀ (a : Addr) (oe : Obj) (cls : Value) (d : Option Addr) (pn : List (Addr × Obj)), Zc cls d oe → (∃ vs, oe.data = .fields vs) → PSs (X.tr ((a, oe) :: pn) X.xe) rest (tr a cls d)) :
    PSs X (.Try body [.ExceptHandler (some (.Name x np)) (some n) (b₀ :: suite) pos'] [] [] pos :: rest) (tTryKeep K c i tb ts tr Wout) := hK ▸ pss_try_keep hs hf hN hi hln hc tk hb hsu hr
theorem inst_atK {X : Cx} {pins : List (Addr × Obj)} {σ : L2.St} {H : Hp} {s : Shared} {a D : Addr} {oe : Obj} (hz : Zc (.ref D) none oe) (hf : ∃ vs, oe.data = .fields vs) (hm : (a, oe) ∈ X.pn) (I : Inv X pins σ H s) : PySem.W.InstAt s.heap a oe D none := by
  have hget := (I.pin (a, oe) (List.mem_append.mpr (.inl hm))).1
  obtain ⟨vs, hv⟩ := hf
  obtain ⟨oc, od, oda, osl⟩ := oe
  obtain ⟨h1, h2⟩ := hz
  dsimp only at h1 h2 hv
  subst h1 h2 hv
  exact ⟨hget, rfl, rfl, trivial⟩
theorem zisXk {a : Addr} {cls : Value} {d : Option Addr} {oe : Obj} {pn : List (Addr × Obj)} (hK : X.K = K) (hz : Zc cls d oe) (hf : ∃ vs, oe.data = .fields vs) (hp : X.pn = (a, oe) :: pn := by rfl) : CallR X (.builtin "isinstance") (rIsX K a cls d) := by
  subst hK
  intro pins s σ H xs us Q I r h
  obtain ⟨D, c, cv, b, rfl, rfl, rfl, hcv, C, e, q⟩ := h
  obtain ⟨u1, u2, rfl, r1, r2⟩ := vals2 r
  cases (show u1 = Value.ref a from r1)
  have ec := hcv.eq r2
  subst ec
  exact PySem.W.kia_one (PySem.W.handS_kitx_exc C.hg C.hk C.hs C.hd C.ha C.hn C.ht C.hm) I.kIn (inst_atK hz hf (by rw [hp]; exact List.mem_cons_self) I) e (fun z => nomatch z) fun tk => ⟨.bl b, H, I.tok tk, rfl, q⟩
theorem zisXTk {a : Addr} {cls : Value} {d : Option Addr} {oe : Obj} {pn : List (Addr × Obj)} (hK : X.K = K) (hz : Zc cls d oe) (hf : ∃ vs, oe.data = .fields vs) (hp : X.pn = (a, oe) :: pn := by rfl) : CallR X (.builtin "isinstance") (rIsXT K a cls d) := by
  subst hK
  intro pins s σ H xs us Q I r h
  obtain ⟨D, tp, cs, ws, b, rfl, rfl, rfl, hT, k, C, e, q⟩ := h
  obtain ⟨u1, u2, rfl, r1, r2⟩ := vals2 r
  cases (show u1 = Value.ref a from r1)
  cases (show u2 = Value.ref tp from r2)
  obtain ⟨_, its, rv, o, h1, h2, n, h3⟩ := (show ObjOk X.prog X.w H s.heap tp (.tup cs) from I.hok tp _ hT)
  have e3 := ClsV.all k rv
  subst e3
  obtain ⟨oc, od, dt, sl⟩ := o
  simp only at h2 h3
  subst h2 h3
  exact PySem.W.kia_tup (PySem.W.handS_kitx_exc C.hg C.hk C.hs C.hd C.ha C.hn C.ht C.hm) I.kIn (inst_atK hz hf (by rw [hp]; exact List.mem_cons_self) I) h1 e (fun z => nomatch z) fun tk => ⟨.bl b, H, I.tok tk, rfl, q⟩
end
section
variable {K : PySem.W.Frag} {H Ho : Hp} {rs : List (Addr × HO)} {σ : L2.St} {γ : Type} {Φ : γ → Prop} {cl : Nat → Addr} {Wout : WX} {D : Ends} {i : Nat}
theorem y_tryK {S : Type} {c : Value} {cb : W (Ex S)} {cs : Er → W γ} {tb : WX → TS} {ts tr : Addr → Value → Option Addr → TS} {sub : Nat → Bool} (σ' : Addr → L2.St) (hm : ∀ n, PySem.W.exmOne K (.ref (cl n)) c = some (sub n)) (z : Zs rs H Ho)
    (hw : (W.exm cb (fun _ => W.bad) fun e => W.guard (sub e.cls = true) (cs e)).run Φ) (hσ : ∀ a, σ.set i (some (.ref a)) = σ' a)
    (hb : ∀ (Wx : WX), cb.run (ExP (fun _ => False) fun e => ∀ H' Ho', Same Ho Ho' → Zs rs H' Ho' → Wx (.ref (cl e.cls)) none σ H') → tb Wx { D with nx := fun _ _ => False } σ H)
    (hs : ∀ e a H' Ho', Same Ho Ho' → Zs rs H' Ho' → H' a = none → (cs e).run Φ →
      ts a (.ref (cl e.cls)) none { nx := fun σ' H' => tr a (.ref (cl e.cls)) none D (σ'.set i none) H', rt := fun _ _ => False, bk := fun _ _ => False, ct := fun _ _ => False } (σ' a) H') : tTryKeep K c i tb ts tr Wout D σ H := by
  refine hb _ (W.mono _ _ _ (fun r hr => ?_) (run_exm hw))
  cases r with
  | ok s => exact hr
  | er r =>
    refine fun H' Ho' e z' => ⟨true, by rw [hm, hr.1], fun _ a ha => ?_, fun q => nomatch q⟩
    rw [hσ]
    exact hs r a H' Ho' e z' ha hr.2
theorem y_keepE {P : L2.St → Hp → Prop} {r : V → Hp → Prop} {b c : L2.St → Hp → Prop} (σ2 : L2.St) (hσ : σ.set i none = σ2) (k : P σ2 H) : tNext { nx := fun σ' H' => P (σ'.set i none) H', rt := r, bk := b, ct := c } σ H := by
  show P (σ.set i none) H
  rw [hσ]; exact k
end
end Z

/-! # a parameter that is None or a list that is lent -/
namespace Z
open PySem PySem.Spec PyProof.Rows L2
section
variable {K : PySem.W.Frag} {H Ho Ho' : Hp} {rs rs' : List (Addr × HO)} {α : Type} [Py α] {v : V}
def OVq (K : PySem.W.Frag) (rs : List (Addr × HO)) (Ho : Hp) (v : V) (x : Option (List α)) : Prop := match x with
  | none => v = .non
  | some xs => LV K rs Ho v xs
theorem OVq.non : OVq K rs Ho .non (none : Option (List α)) := rfl
theorem OVq.some {xs : List α} (h : LV K rs Ho v xs) : OVq K rs Ho v (some xs) := h
theorem OVq.mo {x : Option (List α)} (h : OVq K rs Ho v x) (e : Same Ho Ho') : OVq K rs Ho' v x := by
  cases x with
  | none => exact h
  | some xs => exact LV.mo h e
theorem OVq.sub {x : Option (List α)} (h : OVq K rs Ho v x) (e : ∀ r ∈ rs, r ∈ rs') : OVq K rs' Ho v x := by
  cases x with
  | none => exact h
  | some xs => exact LV.sub h e
theorem OVq.ofD {x : Option (List α)} (d : Z.D K Ho v x) : OVq K rs Ho v x := by
  cases x with
  | none =>
    have d : Dq K Ho v .none := d
    cases d; rfl
  | some xs => exact LV.of d
theorem OVq.rd {x : Option (List α)} (h : OVq K rs Ho v x) (z : Zs rs' H Ho) (m : ∀ r ∈ rs, r ∈ rs') : Z.D K H v x := by
  cases x with
  | none =>
    cases (show v = .non from h)
    exact Dq.non
  | some xs =>
    obtain ⟨p, vs, rfl, d, s⟩ := LV.rd (LV.sub h m) z
    exact Dq.lst s (DL.mo d z.le)
theorem k_lstO {β : Type} {P : OwnPred β} {R : Grp} {Q : VK} {vs : List V} {xs : List β} {gs : List Grp} (r : RowO (P K Ho) vs xs gs) (z : Zs (gs.flatten ++ R) H Ho) (hl : vs.length ≤ sizeLine) (k : ∀ p g H', Zs (g ++ R) H' Ho → OLo P K Ho (.ref p) xs g → Q (.ref p) H') : LstK Q vs H :=
  ⟨hl, fun p hp => k p _ _ (z.root hp) ⟨p, vs, gs, rfl, r, rfl⟩⟩
end
section
variable {H : Hp} {σ : L2.St} {D : Ends} {u : TS} {ta : TA} {i j l : Nat} {a b c : V}
def Par3 (G : V → V → V → Prop) (vs : List V) : Prop := ∃ a b c, vs = [a, b, c] ∧ G a b c
/-- a, b, c = x, y, z -/
theorem l_p3 (σ' : V → V → V → L2.St) (hσ : ∀ a b c, ((σ.set i (some a)).set j (some b)).set l (some c) = σ' a b c) (k : ta σ H fun vs H1 => Par3 (fun a b c => u D (σ' a b c) H1) vs) : tSeq (tPar3 i j l ta) u D σ H := by
  have e : (fun vs H1 => Par3 (fun a b c => u D (σ' a b c) H1) vs) = fun vs H1 => ∃ a b c, vs = [a, b, c] ∧ u D (((σ.set i (some a)).set j (some b)).set l (some c)) H1 := by
    funext vs H1
    unfold Par3
    simp only [hσ]
  rw [e] at k
  exact k
theorem l_p3k {G : V → V → V → Prop} (k : LetV (fun a => LetV (fun b => LetV (fun c => G a b c) c) b) a) : Par3 G [a, b, c] := ⟨a, b, c, rfl, k⟩
end
end Z

/-! # two items of an own list of own things, taken out at once -/
namespace Z
open PySem PySem.Spec PyProof.Rows L2
section
variable {K : PySem.W.Frag} {H Ho H' Ho' : Hp} {R : Grp} {v w u : V} {β γ : Type} [Py β] {Φ : γ → Prop}
/-- a list, two of whose items (i, j) are looked after elsewhere -/
def OLhh (P : OwnPred β) (i : Int) (u : V) (j : Int) (w : V) : OwnPred (List β) := fun K Ho v xs g => ∃ p vs gs a b, v = .ref p ∧ RowO (P K Ho) vs xs gs ∧ ixN xs.length i = some a ∧ ixN xs.length j = some b ∧ a ≠ b ∧ vs[a]? = some u ∧ vs[b]? = some w ∧ g = (p, HO.lst vs) :: ((gs.set a []).set b []).flatten
theorem OLhh.mo {P : OwnPred β} [OwnD P] {i j : Int} {xs : List β} {g : Grp} (h : OLhh P i u j w K Ho v xs g) (e : Same Ho Ho') : OLhh P i u j w K Ho' v xs g := by
  obtain ⟨p, vs, gs, a, b, rfl, r, q⟩ := h
  exact ⟨p, vs, gs, a, b, rfl, r.imp fun v x g h => OwnD.mo h e, q⟩
theorem elAt_of {P : OwnPred β} {xs : List β} {R' rs : Grp} {vs : List V} {p : Addr} {gs : List Grp} {i : Int} {a : Nat} (el : ElAt R' (.ref p) i u) (m : ∀ r ∈ R', r ∈ rs) (z : Zs rs H Ho) (r : RowO (P K Ho) vs xs gs) (hp : H p = some (HO.lst vs)) (ej : ixN xs.length i = some a) : vs[a]? = some u := by
  obtain ⟨p', vs', e1, m', e2⟩ := el
  cases e1
  have h3 := (z.rt _ (m _ m')).1
  have : vs' = vs := by
    have := h3.symm.trans hp
    cases this
    rfl
  subst this
  rw [← r.len.1] at ej
  rw [ix_at ej] at e2
  exact e2
theorem o_open2 {P : OwnPred β} {xs : List β} {i j : Int} {g R1 R2 : Grp} {f : β → β → W γ} {X : Prop} (o : OLo P K Ho v xs g) (z : Zs (g ++ R) H Ho) (el1 : ElAt R1 v i u) (m1 : ∀ r ∈ R1, r ∈ g ++ R) (el2 : ElAt R2 v j w) (m2 : ∀ r ∈ R2, r ∈ g ++ R)
    (hw : (W.bind (W.opt (atI xs i)) fun x => W.bind (W.opt (atI xs j)) fun y => W.guard (ixN xs.length i ≠ ixN xs.length j) (f x y)).run Φ)
    (k : ∀ x y gi gj gh, Zs (gi ++ (gj ++ (gh ++ R))) H Ho → OLhh P i u j w K Ho v xs gh → P K Ho u x gi → P K Ho w y gj → (f x y).run Φ → X) : X := by
  obtain ⟨x, ex, y, ey, ne, hw⟩ := hw
  obtain ⟨p, vs, gs, rfl, r, rfl⟩ := o
  obtain ⟨a, ea, hx⟩ := at_ix ex
  obtain ⟨b, eb, hy⟩ := at_ix ey
  have nab : a ≠ b := fun e => ne (by rw [ea, eb, e])
  have hp : H p = some (HO.lst vs) := (z.rt _ (List.mem_append_left _ List.mem_cons_self)).1
  have hu := elAt_of el1 m1 z r hp ea
  have hw' := elAt_of el2 m2 z r hp eb
  obtain ⟨u', gi, hu', hg, pu⟩ := r.get hx
  obtain ⟨w', gj, hw2, hg2, pw⟩ := r.get hy
  cases hu'.symm.trans hu
  cases hw2.symm.trans hw'
  have hg3 : (gs.set a [])[b]? = some gj := by rw [List.getElem?_set, if_neg nab, hg2]
  refine k x y gi gj ((p, HO.lst vs) :: ((gs.set a []).set b []).flatten) (z.perm ?_) ⟨p, vs, gs, a, b, rfl, r, ea, eb, nab, hu, hw', rfl⟩ pu pw hw
  show ((p, HO.lst vs) :: (gs.flatten ++ R)).Perm (gi ++ (gj ++ ((p, HO.lst vs) :: (((gs.set a []).set b []).flatten ++ R))))
  have e1 : (gs.flatten ++ R).Perm (gi ++ (gj ++ (((gs.set a []).set b []).flatten ++ R))) := by
    have := ((flat_at hg).trans ((flat_at hg3).append_left gi)).append_right R
    simpa only [List.append_assoc] using this
  refine (List.Perm.cons _ e1).trans ?_
  refine List.perm_middle.symm.trans ?_
  exact (List.perm_middle.symm).append_left gi
theorem o_fill2 {P : OwnPred β} {xs : List β} {i j : Int} {x y : β} {gi gj gh : Grp} {X : Prop} (oh : OLhh P i u j w K Ho v xs gh) (o1 : P K Ho u x gi) (o2 : P K Ho w y gj) (z : Zs (gi ++ (gj ++ (gh ++ R))) H Ho)
    (k : ∀ g, Zs (g ++ R) H Ho → OLo P K Ho v (setI (setI xs i x) j y) g → X) : X := by
  obtain ⟨p, vs, gs, a, b, rfl, r, ea, eb, nab, hu, hw, rfl⟩ := oh
  have hl := r.len
  have la := (List.getElem?_eq_some_iff.mp hu).1
  have lb := (List.getElem?_eq_some_iff.mp hw).1
  obtain ⟨ga, hga⟩ : ∃ g, gs[a]? = some g := ⟨_, List.getElem?_eq_getElem (by omega)⟩
  obtain ⟨gb, hgb⟩ : ∃ g, gs[b]? = some g := ⟨_, List.getElem?_eq_getElem (by omega)⟩
  refine k ((p, HO.lst vs) :: ((gs.set a gi).set b gj).flatten) (z.perm ?_) ⟨p, vs, (gs.set a gi).set b gj, rfl, ?_, rfl⟩
  · show (gi ++ (gj ++ ((p, HO.lst vs) :: (((gs.set a []).set b []).flatten ++ R)))).Perm ((p, HO.lst vs) :: (((gs.set a gi).set b gj).flatten ++ R))
    refine (List.perm_middle.append_left gi).trans (List.perm_middle.trans (List.Perm.cons _ ?_))
    have h1 : (gs.set a gi)[b]? = some gb := by rw [List.getElem?_set, if_neg nab, hgb]
    have h2 : (gs.set b [])[a]? = some ga := by rw [List.getElem?_set, if_neg (fun e => nab e.symm), hga]
    have p1 := flat_set (g' := gj) h1
    have p2 := flat_set (g' := gi) h2
    have e5 : (gs.set a gi).set b [] = (gs.set b []).set a gi := List.set_comm _ _ nab
    rw [e5] at p1
    have e3 : ((gs.set b []).set a []) = ((gs.set a []).set b []) := List.set_comm _ _ (fun e => nab e.symm)
    rw [e3] at p2
    have p3 := ((p1.trans (p2.append_left gj)).append_right R).symm
    refine List.Perm.trans ?_ p3
    simp only [List.append_assoc]
    exact List.perm_append_comm_assoc _ _ _
  · have e : setI (setI xs i x) j y = (xs.set a x).set b y := by
      have e1 : setI xs i x = xs.set a x := by unfold setI; rw [ea]
      rw [e1]
      unfold setI
      rw [List.length_set, eb]
    rw [e]
    exact (r.set hu o1).set hw o2
end
end Z

/-! # lists of lists that another holds; a tuple of a number and such a list; items of own lists read -/
namespace Z
open PySem PySem.Spec PyProof.Rows L2
section
variable {K : PySem.W.Frag} {H Ho H' Ho' : Hp} {R rs r0 g : Grp} {v w u v0 v1 : V} {α β γ : Type} [Py α] [Py β] {Φ : γ → Prop} {Q : VK}
def LLV (K : PySem.W.Frag) (R : Grp) (Ho : Hp) (v : V) (xss : List (List α)) : Prop := ∃ p vs, v = .ref p ∧ LVs K R Ho vs xss ∧ (SqL K Ho p vs ∨ (p, HO.lst vs) ∈ R)
theorem SqL.mo {p : Addr} {vs : List V} (s : SqL K Ho p vs) (e : Same Ho Ho') : SqL K Ho' p vs := e.seq s
theorem LLV.mo {xss : List (List α)} (h : LLV K R Ho v xss) (e : Same Ho Ho') : LLV K R Ho' v xss := by
  obtain ⟨p, vs, rfl, l, s⟩ := h
  exact ⟨p, vs, rfl, l.mo e, s.imp (fun s => SqL.mo s e) id⟩
theorem LVs.sub {R2 : Grp} (e : ∀ r ∈ R, r ∈ R2) : ∀ {vs : List V} {xss : List (List α)}, LVs K R Ho vs xss → LVs K R2 Ho vs xss
  | _, _, .nil => .nil
  | _, _, .cons a t => .cons (a.sub e) (t.sub e)
theorem LLV.sub {R2 : Grp} {xss : List (List α)} (h : LLV K R Ho v xss) (e : ∀ r ∈ R, r ∈ R2) : LLV K R2 Ho v xss := by
  obtain ⟨p, vs, rfl, l, s⟩ := h
  exact ⟨p, vs, rfl, l.sub e, s.imp id (e _)⟩
theorem lvs_ofD : ∀ {vs : List V} {xss : List (List α)}, DL K Ho vs xss → LVs K R Ho vs xss
  | [], [], _ => .nil
  | [], _ :: _, h => by cases h
  | _ :: _, [], h => by cases h
  | v :: vs, x :: xs, h => by
    cases h with
    | cons h1 h2 => exact .cons (LV.of h1) (lvs_ofD h2)
theorem LLV.ofD {xss : List (List α)} (d : Z.D K Ho v xss) : LLV K R Ho v xss := by
  have d : Dq K Ho v (.list (xss.map Py.toPy)) := d
  cases d with
  | lst hs ha => exact ⟨_, _, rfl, lvs_ofD ha, .inl hs⟩
theorem lvs_ofO : ∀ {vs : List V} {xss : List (List α)} {gs : List Grp}, RowO (fun v xs g => OL K Ho v xs g) vs xss gs → (∀ r ∈ gs.flatten, r ∈ R) → LVs K R Ho vs xss
  | _, _, _, .nil, _ => .nil
  | _, _, _, .cons a t, m => .cons (OL.lv a fun r h => m r (by rw [List.flatten_cons]; exact List.mem_append_left _ h)) (lvs_ofO t fun r h => m r (by rw [List.flatten_cons]; exact List.mem_append_right _ h))
theorem LLV.ofO {xss : List (List α)} (o : OLo (fun K Ho v xs g => OL (α := α) K Ho v xs g) K Ho v xss g) (m : ∀ r ∈ g, r ∈ R) : LLV K R Ho v xss := by
  obtain ⟨p, vs, gs, rfl, r, rfl⟩ := o
  exact ⟨p, vs, rfl, lvs_ofO r fun q h => m q (List.mem_cons_of_mem _ h), .inr (m _ List.mem_cons_self)⟩
theorem k_srcLL {RI : It → Hp → Prop} {xss : List (List α)} (h : LLV K r0 Ho v xss) (m : ∀ r ∈ r0, r ∈ rs) (z : Zs rs H Ho) (k : ∀ J, TrnP (fun Ho x a => LV K r0 Ho x a) r0 J xss Ho → RI J H) : SrcL K RI v H := by
  obtain ⟨p, vs, rfl, l, s⟩ := h
  have st : ∀ {rs' : Grp} {H' Ho' : Hp}, Same Ho Ho' → Zs rs' H' Ho' → (∀ r ∈ r0, r ∈ rs') → SqL K H' p vs := fun e z sub => src_stay s e z sub
  refine ⟨p, rfl, ⟨vs, st (Same.refl _) z m⟩, k _ ?_⟩
  intro i rs' H' Ho' e z' sub
  have sq := st e z' sub
  refine ⟨fun a ha => ?_, fun hl => ⟨vs, sq, by rw [l.len]; exact hl⟩⟩
  obtain ⟨u, hu, lu⟩ := l.get ha
  refine ⟨⟨vs, u, sq, hu⟩, fun x H'' y => ?_⟩
  obtain ⟨rfl, y⟩ := y
  have ex : x = u := Option.some.inj ((y _ sq).symm.trans hu)
  subst ex
  exact ⟨Ho', Same.refl _, fun _ z => z, lu.mo e⟩
theorem y_lenLL {xss : List (List α)} (h : LLV K R Ho v xss) (z : Zs R H Ho) (k : Q (.int (xss.length : Int)) H) : rLenZ K [v] H Q := by
  obtain ⟨p, vs, rfl, l, s⟩ := h
  refine ⟨_, _, rfl, .inl (src_stay s (Same.refl _) z fun r h => h), ?_⟩
  rw [l.len]
  exact k
theorem y_ixLL {xss : List (List α)} {i : Int} {f : List α → W γ} (h : LLV K R Ho v xss) (m : ∀ r ∈ R, r ∈ rs) (z : Zs rs H Ho) (hw : (W.bind (W.opt (atI xss i)) f).run Φ) (k : ∀ t u, LV K R Ho u t → (f t).run Φ → Q u H) : rIxL K v (.int i) H Q := by
  obtain ⟨x, ex, hw⟩ := hw
  obtain ⟨p, vs, rfl, l, s⟩ := h
  obtain ⟨j, ej, hx⟩ := at_ix ex
  obtain ⟨u, hu, lu⟩ := l.get hx
  refine ⟨p, vs, i, u, rfl, rfl, src_stay s (Same.refl _) z m, ?_, k x u lu hw⟩
  rw [← l.len] at ej
  rw [ix_at ej, hu]
/-- a number, and a list of lists -/
def LPG (K : PySem.W.Frag) (R : Grp) (Ho : Hp) (v : V) (x : Int × List (List α)) : Prop := ∃ v1, TupAt Ho v (.int x.1) v1 ∧ LLV K R Ho v1 x.2
theorem LPG.of2 {n : Int} {xss : List (List α)} (t : TupAt Ho v (.int n) v1) (l : LLV K R Ho v1 xss) : LPG K R Ho v (n, xss) := ⟨v1, t, l⟩
theorem LPG.ofD {x : Int × List (List α)} (d : Z.D K Ho v x) : LPG K R Ho v x := by
  obtain ⟨n, xss⟩ := x
  have d : Dq K Ho v (.tuple [.int n, .list (xss.map Py.toPy)]) := d
  cases d with
  | tup hs ha =>
    cases ha with
    | cons h1 ha =>
      cases ha with
      | cons h2 ha =>
        cases ha
        cases h1
        exact ⟨_, ⟨_, rfl, hs⟩, LLV.ofD h2⟩
theorem LPG.mo {x : Int × List (List α)} (h : LPG K R Ho v x) (e : Same Ho Ho') : LPG K R Ho' v x := by
  obtain ⟨v1, t, l⟩ := h
  exact ⟨v1, t.mo e, l.mo e⟩
theorem LPG.sub {R2 : Grp} {x : Int × List (List α)} (h : LPG K R Ho v x) (e : ∀ r ∈ R, r ∈ R2) : LPG K R2 Ho v x := by
  obtain ⟨v1, t, l⟩ := h
  exact ⟨v1, t, l.sub e⟩
/-! items that are read -/
theorem elMo {P : OwnPred β} [OwnD P] {x : β} (b : ∃ g, P K Ho u x g ∧ ∀ r ∈ g, r ∈ R) (e : Same Ho Ho') : ∃ g, P K Ho' u x g ∧ ∀ r ∈ g, r ∈ R := by
  obtain ⟨g, o, m⟩ := b
  exact ⟨g, OwnD.mo o e, m⟩
theorem elRd {P : OwnPred β} [OwnD P] {x : β} (b : ∃ g, P K Ho u x g ∧ ∀ r ∈ g, r ∈ R) (m : ∀ r ∈ R, r ∈ rs) (z : Zs rs H Ho) : Z.D K H u x := by
  obtain ⟨g, o, m0⟩ := b
  exact OwnD.rd o z.le (z.in_ fun r h => m r (m0 r h))
theorem elLv {x : List α} (b : ∃ g, OL K Ho u x g ∧ ∀ r ∈ g, r ∈ R) (m : ∀ r ∈ R, r ∈ rs) : LV K rs Ho u x := by
  obtain ⟨g, o, m0⟩ := b
  exact OL.lv o fun r h => m r (m0 r h)
/-! pop of a list of own things -/
theorem flat_erase : ∀ {gs : List Grp} {i : Nat} {g : Grp}, gs[i]? = some g → gs.flatten.Perm (g ++ (gs.eraseIdx i).flatten)
  | [], i, g, h => by simp at h
  | a :: gs, 0, g, h => by cases h; simp
  | a :: gs, i + 1, g, h => by
    have := flat_erase (gs := gs) (i := i) (by simpa using h)
    simp only [List.eraseIdx_cons_succ, List.flatten_cons]
    refine (this.append_left a).trans ?_
    exact List.perm_append_comm_assoc _ _ _
theorem RowO.erase {P : V → β → Grp → Prop} : ∀ {vs : List V} {xs : List β} {gs : List Grp} {i : Nat}, RowO P vs xs gs → RowO P (vs.eraseIdx i) (xs.eraseIdx i) (gs.eraseIdx i)
  | _, _, _, i, .nil => .nil
  | _, _, _, 0, .cons a t => t
  | _, _, _, i + 1, .cons a t => .cons a (t.erase (i := i))
theorem g_popIO {P : OwnPred β} {xs : List β} {i : Int} {f : β × List β → W γ} (z : Zs (g ++ R) H Ho) (o : OLo P K Ho v xs g) (hw : (W.bind (popI xs i) f).run Φ) (k : ∀ t xs' w gi g' H', Zs (gi ++ (g' ++ R)) H' Ho → OLo P K Ho v xs' g' → P K Ho w t gi → (f (t, xs')).run Φ → Q w H') : rPopAt v [.int i] H Q := by
  obtain ⟨p, vs, gs, rfl, r, rfl⟩ := o
  obtain ⟨hb, j, ej, t, et, hw⟩ := hw
  obtain ⟨w, gi, hv, hg, pw⟩ := r.get et
  have z1 : Zs ((p, HO.lst vs) :: (gs.flatten ++ R)) H Ho := z
  refine ⟨p, vs, i, j, w, rfl, rfl, z1.head, hb.1, hb.2, ?_, hv, ?_⟩
  · have := r.len.1
    rw [this]
    exact ixN_seq ej
  · refine k t _ w gi ((p, HO.lst (vs.eraseIdx j)) :: (gs.eraseIdx j).flatten) _ ?_ ⟨p, _, _, rfl, r.erase, rfl⟩ pw hw
    have z2 : Zs ((p, HO.lst (vs.eraseIdx j)) :: (gs.flatten ++ R)) _ Ho := z1.put
    refine z2.perm ?_
    show ((p, HO.lst (vs.eraseIdx j)) :: (gs.flatten ++ R)).Perm (gi ++ ((p, HO.lst (vs.eraseIdx j)) :: ((gs.eraseIdx j).flatten ++ R)))
    refine List.Perm.trans (List.Perm.cons _ ?_) List.perm_middle.symm
    rw [← List.append_assoc]
    exact (flat_erase hg).append_right _
theorem g_popO {P : OwnPred β} {xs : List β} {f : β → W γ} (z : Zs (g ++ R) H Ho) (o : OLo P K Ho v xs g) (hw : (W.bind (popL xs) f).run Φ) (k : ∀ t w gi g' H', Zs (gi ++ (g' ++ R)) H' Ho → OLo P K Ho v xs.dropLast g' → P K Ho w t gi → (f t).run Φ → Q w H') : rPop v [] H Q := by
  obtain ⟨p, vs, gs, rfl, r, rfl⟩ := o
  obtain ⟨t, et, hw⟩ := hw
  obtain ⟨w, gi, hv, hg, pw⟩ := r.get et
  have hl := r.len
  have z1 : Zs ((p, HO.lst vs) :: (gs.flatten ++ R)) H Ho := z
  refine ⟨p, vs, w, rfl, rfl, z1.head, by rw [hl.1]; exact hv, ?_⟩
  have r2 := r.erase (i := xs.length - 1)
  rw [List.eraseIdx_length_sub_one] at r2
  have e1 : vs.eraseIdx (xs.length - 1) = vs.dropLast := by rw [← hl.1, List.eraseIdx_length_sub_one]
  rw [e1] at r2
  refine k t w gi ((p, HO.lst vs.dropLast) :: (gs.eraseIdx (xs.length - 1)).flatten) _ ?_ ⟨p, _, _, rfl, r2, rfl⟩ pw hw
  have z2 : Zs ((p, HO.lst vs.dropLast) :: (gs.flatten ++ R)) _ Ho := z1.put
  refine z2.perm ?_
  show ((p, HO.lst vs.dropLast) :: (gs.flatten ++ R)).Perm (gi ++ ((p, HO.lst vs.dropLast) :: ((gs.eraseIdx (xs.length - 1)).flatten ++ R)))
  refine List.Perm.trans (List.Perm.cons _ ?_) List.perm_middle.symm
  rw [← List.append_assoc]
  exact (flat_erase hg).append_right _
theorem l_oG2 {β γ : Type} {R : Grp} {H Ho : Hp} {Φ : γ → Prop} {P : V → β → Grp → Prop} {X : Prop} {v : V} {e : β} {g : Grp} {f : β → W γ} (hw : (W.bind (W.ret e) f).run Φ) (z : Zs (g ++ R) H Ho) (o : P v e g) (k : ∀ x g, Zs (g ++ R) H Ho → P v x g → (f x).run Φ → X) : X := k e g z o hw
end
end Z

/-! # a tuple of two pairs of one's own; a loop over it, turn by turn; a borrowed pair -/
namespace Z
open PySem PySem.Spec PyProof.Rows L2
section
variable {K : PySem.W.Frag} {H Ho H' Ho' : Hp} {α β α' β' γ : Type} [Py α] [Py β] [Py α'] [Py β'] {Φ : γ → Prop} {R R' g0 g1 g rs : Grp} {v w u v0 v1 : V} {Q : VK} {σ σ' : L2.St} {x : (List α × List β) × (List α' × List β')} {p : List α × List β} {q : List α' × List β'}
theorem TupAt.dd {x : α} {y : β} (t : TupAt Ho v v0 v1) (d0 : Z.D K Ho v0 x) (d1 : Z.D K Ho v1 y) : Z.D K Ho v (x, y) := by
  obtain ⟨p, rfl, hp⟩ := t
  exact .tup hp (.cons d0 (.cons d1 .nil))
def OPP (K : PySem.W.Frag) (Ho : Hp) (v : V) (x : (List α × List β) × (List α' × List β')) (g : Grp) : Prop := ∃ v0 v1 g0 g1, TupAt Ho v v0 v1 ∧ OP K Ho v0 x.1 g0 ∧ OP K Ho v1 x.2 g1 ∧ g = g0 ++ g1
theorem OPP.mo (h : OPP K Ho v x g) (e : Same Ho Ho') : OPP K Ho' v x g := by
  obtain ⟨v0, v1, g0, g1, t, o0, o1, rfl⟩ := h
  exact ⟨v0, v1, g0, g1, t.mo e, o0.mo e, o1.mo e, rfl⟩
theorem pp_open {P : Prop} (o : OPP K Ho v x g) (z : Zs (g ++ R) H Ho) (k : ∀ v0 v1 g0 g1, TupAt Ho v v0 v1 → OP K Ho v0 x.1 g0 → OP K Ho v1 x.2 g1 → Zs (g0 ++ (g1 ++ R)) H Ho → P) : P := by
  obtain ⟨v0, v1, g0, g1, t, o0, o1, rfl⟩ := o
  rw [List.append_assoc] at z
  exact k v0 v1 g0 g1 t o0 o1 z
theorem pp_close {P : Prop} (t : TupAt Ho v v0 v1) (o0 : OP K Ho v0 p g0) (o1 : OP K Ho v1 q g1) (z : Zs (g0 ++ (g1 ++ R)) H Ho) (k : ∀ g, OPP K Ho v (p, q) g → Zs (g ++ R) H Ho → P) : P :=
  k (g0 ++ g1) ⟨v0, v1, g0, g1, t, o0, o1, rfl⟩ (by rw [List.append_assoc]; exact z)
theorem pp_fr {P : Prop} (o : OPP K Ho v x g) (z : Zs (g ++ R) H Ho) (k : ∀ Ho', Same Ho Ho' → Zs R H Ho' → Z.D K Ho' v x → P) : P := by
  obtain ⟨w0, w1, g0, g1, t, o0, o1, rfl⟩ := o
  rw [List.append_assoc] at z
  refine p_fr o0 z fun Ho1 e1 z1 d0 => ?_
  refine p_fr (o1.mo e1) z1 fun Ho2 e2 z2 d1 => ?_
  exact k Ho2 (e1.trans e2) z2 (TupAt.dd ((t.mo e1).mo e2) (D.mo d0 e2) d1)
theorem pp_o {G : V → Prop} {e : (List α × List β) × (List α' × List β')} {f : (List α × List β) × (List α' × List β') → W γ} (hw : (W.bind (W.ret e) f).run Φ) (z : Zs (g ++ R) H Ho) (o : OPP K Ho v e g) (k : ∀ x v g, Zs (g ++ R) H Ho → OPP K Ho v x g → (f x).run Φ → G v) : LetV G v := k e v g z o hw
/-- a pair of lists that another holds -/
def LP (K : PySem.W.Frag) (R : Grp) (Ho : Hp) (v : V) (x : List α × List β) : Prop := ∃ v0 v1, TupAt Ho v v0 v1 ∧ LV K R Ho v0 x.1 ∧ LV K R Ho v1 x.2
theorem LP.of2 {xs : List α} {ys : List β} (t : TupAt Ho v v0 v1) (l0 : LV K R Ho v0 xs) (l1 : LV K R Ho v1 ys) : LP K R Ho v (xs, ys) := ⟨v0, v1, t, l0, l1⟩
/-- an iterator over a tuple of two -/
def Tw (K : PySem.W.Frag) (J : It) (v v0 v1 : V) : Prop := ∀ rs H' Ho', TupAt Ho' v v0 v1 → Zs rs H' Ho' → J.go 0 H' ∧ (∀ x H'', J.yld 0 H' x H'' → H'' = H' ∧ x = v0) ∧ J.go 1 H' ∧ (∀ x H'', J.yld 1 H' x H'' → H'' = H' ∧ x = v1) ∧ J.stop 2 H'
theorem tw_tup {a : Addr} : Tw K (Itt K a) (.ref a) v0 v1 := by
  rintro rs H' Ho' ⟨p, e, hp⟩ z
  cases e
  have s : SqT K H' a [v0, v1] := SqT.of (z.le _ _ hp)
  exact ⟨⟨_, _, s, rfl⟩, fun x H'' y => ⟨y.1, (Option.some.inj (y.2 _ s)).symm⟩, ⟨_, _, s, rfl⟩, fun x H'' y => ⟨y.1, (Option.some.inj (y.2 _ s)).symm⟩, _, s, Nat.le_refl _⟩
theorem k_srcTw {R : It → Hp → Prop} (t : TupAt Ho v v0 v1) (z : Zs rs H Ho) (k : ∀ J, Tw K J v v0 v1 → R J H) : SrcT K R v H := by
  obtain ⟨p, rfl, hp⟩ := t
  exact ⟨p, rfl, ⟨_, SqT.of (z.le _ _ hp)⟩, k _ tw_tup⟩
variable {g' : TG} {u1 tb : TS} {D : Ends} {J : It}
def Nx2 (u : TS) (D : Ends) (J : It) : L2.St → Hp → Prop := fun σ' H' => J.stop 2 H' ∧ u D σ' H'
def Nx1 (g : TG) (tb u : TS) (D : Ends) (J : It) : L2.St → Hp → Prop := fun σ' H' => J.go 1 H' ∧ ∀ x H'', J.yld 1 H' x H'' → g x σ' H'' fun σ2 H2 => tb { D with nx := Nx2 u D J, ct := Nx2 u D J, bk := u D } σ2 H2
theorem y_for2 (T : Tw K J v v0 v1) (t : TupAt Ho v v0 v1) (z : Zs rs H Ho) (k : g' v0 σ H fun σ2 H2 => tb { D with nx := Nx1 g' tb u1 D J, ct := Nx1 g' tb u1 D J, bk := u1 D } σ2 H2) : ForG g' tb u1 D σ J H := by
  refine ⟨fun i m σ' H' => (i = 0 ∧ m = 2 ∧ σ' = σ ∧ H' = H) ∨ (i = 1 ∧ m = 1 ∧ Nx1 g' tb u1 D J σ' H') ∨ (i = 2 ∧ m = 0 ∧ Nx2 u1 D J σ' H'), ⟨2, .inl ⟨rfl, rfl, rfl, rfl⟩⟩, ?_⟩
  rintro i m σ' H' (⟨rfl, rfl, rfl, rfl⟩ | ⟨rfl, rfl, n1⟩ | ⟨rfl, rfl, n2⟩)
  · obtain ⟨a, b, _⟩ := T _ _ _ t z
    refine .inr ⟨a, Nx1 g' tb u1 D J, fun σ' H' n => ⟨1, by decide, .inr (.inl ⟨rfl, rfl, n⟩)⟩, fun x H'' y => ?_⟩
    obtain ⟨rfl, rfl⟩ := b x H'' y
    exact k
  · exact .inr ⟨n1.1, Nx2 u1 D J, fun σ' H' n => ⟨0, by decide, .inr (.inr ⟨rfl, rfl, n⟩)⟩, n1.2⟩
  · exact .inl n2
theorem y_nx1 {E : Ends} (hE : E.nx = Nx1 g' tb u1 D J) (T : Tw K J v v0 v1) (t : TupAt Ho v v0 v1) (z : Zs rs H Ho) (k : g' v1 σ H fun σ2 H2 => tb { D with nx := Nx2 u1 D J, ct := Nx2 u1 D J, bk := u1 D } σ2 H2) : tNext E σ H := by
  show E.nx σ H
  rw [hE]
  obtain ⟨_, _, a, b, _⟩ := T _ _ _ t z
  refine ⟨a, fun x H'' y => ?_⟩
  obtain ⟨rfl, rfl⟩ := b x H'' y
  exact k
theorem y_nx2 {E : Ends} (hE : E.nx = Nx2 u1 D J) (T : Tw K J v v0 v1) (t : TupAt Ho v v0 v1) (z : Zs rs H Ho) (k : u1 D σ H) : tNext E σ H := by
  show E.nx σ H
  rw [hE]
  obtain ⟨_, _, _, _, a⟩ := T _ _ _ t z
  exact ⟨a, k⟩
end
end Z

/-! # things that are read for a while: displays of what others hold -/
namespace Z
open PySem PySem.Spec PyProof.Rows L2
def RdV {α : Type} [Py α] (K : PySem.W.Frag) (R : Grp) (Ho : Hp) (v : V) (x : α) : Prop := ∀ rs H, (∀ r ∈ R, r ∈ rs) → Zs rs H Ho → Z.D K H v x
inductive RdAll (K : PySem.W.Frag) (R : Grp) (Ho : Hp) : List V → List PyData → Prop
  | nil : RdAll K R Ho [] []
  | cons {v : V} {d : PyData} {vs : List V} {ds : List PyData} (h : RdV K R Ho v d) (t : RdAll K R Ho vs ds) : RdAll K R Ho (v :: vs) (d :: ds)
section
variable {K : PySem.W.Frag} {H Ho H' Ho' : Hp} {R R2 rs g : Grp} {v w : V} {α β γ : Type} [Py α] [Py β] {Φ : γ → Prop} {Q : VK} {vs : List V} {ds : List PyData}
theorem Zs.back (z : Zs rs H Ho') (e : Same Ho Ho') : Zs rs H Ho := ⟨e.trans z.le, fun r h => ⟨(z.rt r h).1, by
  cases q : Ho r.1 with
  | none => rfl
  | some o =>
    have := e _ _ q
    rw [(z.rt r h).2] at this
    cases this⟩, z.nd, z.nt⟩
theorem RdV.mo {x : α} (h : RdV K R Ho v x) (e : Same Ho Ho') : RdV K R Ho' v x := fun rs H m z => h rs H m (z.back e)
theorem RdV.sub {x : α} (h : RdV K R Ho v x) (e : ∀ r ∈ R, r ∈ R2) : RdV K R2 Ho v x := fun rs H m z => h rs H (fun r hr => m r (e r hr)) z
theorem RdV.rd {x : α} (h : RdV K R Ho v x) (m : ∀ r ∈ R, r ∈ rs) (z : Zs rs H Ho) : Z.D K H v x := h rs H m z
theorem RdV.py {x : α} (h : RdV K R Ho v x) : RdV K R Ho v (toPy x) := fun rs H m z => h rs H m z
theorem RdV.ofD {x : α} (d : Z.D K Ho v x) : RdV K R Ho v x := fun rs H m z => D.mo d z.le
theorem RdV.ofLV {x : List α} (d : LV K R Ho v x) : RdV K R Ho v x := fun rs H m z => LV.dp (LV.sub d m) z
theorem RdV.ofO {P : OwnPred β} [OwnD P] {x : β} (o : P K Ho v x g) (e : ∀ r ∈ g, r ∈ R) : RdV K R Ho v x := fun rs H m z => OwnD.rd o z.le (z.in_ fun r h => m r (e r h))
theorem RdV.ofEl {P : OwnPred β} [OwnD P] {x : β} (b : ∃ g, P K Ho v x g ∧ ∀ r ∈ g, r ∈ R2) (e : ∀ r ∈ R2, r ∈ R) : RdV K R Ho v x := fun rs H m z => elRd b (fun r h => m r (e r h)) z
theorem RdV.ofBLo {P : OwnPred β} [OwnD P] {x : List β} (b : BLo P K R Ho v x) : RdV K R Ho v x := fun rs H m z => (BLo.sub b m).rd z
theorem lvs_dl (z : Zs rs H Ho) : ∀ {vs : List V} {xss : List (List α)}, LVs K rs Ho vs xss → DL K H vs xss
  | _, _, .nil => .nil
  | _, _, .cons a t => .cons (LV.dp a z) (lvs_dl z t)
theorem RdV.ofLLV {x : List (List α)} (b : LLV K R Ho v x) : RdV K R Ho v x := fun rs H m z => by
  obtain ⟨p, vs, rfl, l, s⟩ := b.sub m
  exact .lst (src_stay s (Same.refl _) z fun r h => h) (lvs_dl z l)
theorem RdV.int {x : Int} : RdV K R Ho (.int x) x := fun _ _ _ _ => .int _
theorem RdV.bl {x : Bool} : RdV K R Ho (.bl x) x := fun _ _ _ _ => .bl _
theorem RdV.str {x : Str} : RdV K R Ho (.str x) x := fun _ _ _ _ => .str _
theorem RdV.non : RdV K R Ho .non PyData.none := fun _ _ _ _ => .non
theorem RdV.two {x : α} {y : β} {v0 v1 : V} (t : TupAt Ho v v0 v1) (h0 : RdV K R Ho v0 x) (h1 : RdV K R Ho v1 y) : RdV K R Ho v (x, y) := fun rs H m z => by
  obtain ⟨p, rfl, hp⟩ := t
  exact .tup (z.le _ _ hp) (.cons (h0 rs H m z) (.cons (h1 rs H m z) .nil))
theorem RdAll.all (m : ∀ r ∈ R, r ∈ rs) (z : Zs rs H Ho) : ∀ {vs : List V} {ds : List PyData}, RdAll K R Ho vs ds → DqAll K H vs ds
  | _, _, .nil => .nil
  | _, _, .cons h t => .cons (h rs H m z) (t.all m z)
theorem RdAll.mo (e : Same Ho Ho') : ∀ {vs : List V} {ds : List PyData}, RdAll K R Ho vs ds → RdAll K R Ho' vs ds
  | _, _, .nil => .nil
  | _, _, .cons h t => .cons (h.mo e) (t.mo e)
theorem k_lstRd {x : α} (hx : toPy x = .list ds) (z : Zs R H Ho) (l : RdAll K R Ho vs ds) (hl : vs.length ≤ sizeLine) (k : ∀ p g H', Zs (g ++ R) H' Ho → RdV K (g ++ R) Ho (.ref p) x → Q (.ref p) H') : LstK Q vs H :=
  ⟨hl, fun p hp => k p [(p, HO.lst vs)] _ (z.root hp) fun rs H m z => by
    show Dq K H (.ref p) (toPy x)
    rw [hx]
    exact .lst (SqL.of (z.rt _ (m _ List.mem_cons_self)).1) (l.all (fun r h => m r (List.mem_append_right _ h)) z)⟩
theorem k_tupRd {x : α} (hx : toPy x = .tuple ds) (z : Zs R H Ho) (l : RdAll K R Ho vs ds) (hl : vs.length ≤ sizeLine) (k : ∀ p H' Ho', Same Ho Ho' → Zs R H' Ho' → RdV K R Ho' (.ref p) x → Q (.ref p) H') : TupK Q vs H :=
  ⟨hl, fun p hp => by
    have e : Same Ho (upd Ho p (.tup vs)) := Same.new (z.free hp)
    refine k p _ _ e (z.alloc hp) fun rs H m z2 => ?_
    show Dq K H (.ref p) (toPy x)
    rw [hx]
    exact .tup (z2.le _ _ upd_same) ((l.mo e).all m z2)⟩
/-! a way of its own where an error may leave -/
section
variable {δ : Type} {Ψ : δ → Prop} {a : Bool} {c1 c2 : W δ} {X : Prop} {QB : Bool → Hp → Prop}
theorem w_or2V (hw : (W.ite a c1 c2).run Ψ) (h1 : a = true → c1.run Ψ → Q (.bl true) H) (h2 : a = false → c2.run Ψ → X) : if a = true then Q (.bl true) H else X := by
  cases a with
  | true => exact iteT (h1 rfl (hw.1 rfl))
  | false => exact iteF (h2 rfl (hw.2 rfl))
theorem w_and2V (hw : (W.ite a c1 c2).run Ψ) (h1 : a = true → c1.run Ψ → X) (h2 : a = false → c2.run Ψ → Q (.bl false) H) : if a = true then X else Q (.bl false) H := by
  cases a with
  | true => exact iteT (h1 rfl (hw.1 rfl))
  | false => exact iteF (h2 rfl (hw.2 rfl))
theorem w_or2 (hw : (W.ite a c1 c2).run Ψ) (h1 : a = true → c1.run Ψ → QB true H) (h2 : a = false → c2.run Ψ → X) : if a = true then QB true H else X := by
  cases a with
  | true => exact iteT (h1 rfl (hw.1 rfl))
  | false => exact iteF (h2 rfl (hw.2 rfl))
theorem w_and2 (hw : (W.ite a c1 c2).run Ψ) (h1 : a = true → c1.run Ψ → X) (h2 : a = false → c2.run Ψ → QB false H) : if a = true then X else QB false H := by
  cases a with
  | true => exact iteT (h1 rfl (hw.1 rfl))
  | false => exact iteF (h2 rfl (hw.2 rfl))
end
theorem LLV.ofL {xss : List (List α)} (o : OL K Ho v xss g) (m : ∀ r ∈ g, r ∈ R) : LLV K R Ho v xss := by
  obtain ⟨p, vs, rfl, d, rfl⟩ := o
  exact ⟨p, vs, rfl, lvs_ofD d, .inr (m _ List.mem_cons_self)⟩
/-! a pair of lists, lent -/
theorem LP.ofD {x : List α × List β} (d : Z.D K Ho v x) : LP K R Ho v x := by
  obtain ⟨xs, ys⟩ := x
  have d : Dq K Ho v (.tuple [toPy xs, toPy ys]) := d
  cases d with
  | tup hs ha =>
    cases ha with
    | cons h1 ha =>
      cases ha with
      | cons h2 ha =>
        cases ha
        exact ⟨_, _, ⟨_, rfl, hs⟩, LV.of h1, LV.of h2⟩
end
end Z

/-! # min(xs, key=len, default=None), xs a list of lists; displays of dicts with one key -/
namespace Z
open PySem PySem.Spec PyProof.Rows L2
/-- where the shortest stands first -/
def atMin (ns : List Nat) : Nat := argBest (fun i j => decide ((ns.getD i 0 : Int) < (ns.getD j 0 : Int))) (ns.length - 1)
def mnLen {α : Type} (xs : List (List α)) : Option (List α) := xs[atMin (xs.map (·.length))]?
def rMinLen (K : PySem.W.Frag) : List V → Hp → VK → Prop := fun xs H Q => ∃ (l : Addr) (us : List V) (ns : List Nat), xs = [.ref l] ∧ SqL K H l us ∧ us.length = ns.length ∧ (∀ (i : Nat) (u : V), us[i]? = some u → ∃ a vs, u = .ref a ∧ SqL K H a vs ∧ vs.length = ns.getD i 0) ∧
  (us = [] → Q .non H) ∧ ∀ u, us[atMin ns]? = some u → Q u H
section
variable {X : Cx} {pins : List (Addr × Obj)} {σ : L2.St} {H : Hp} {s : Shared} {Q : VK}
/-- a heap that has grown -/
def Grown (s s' : Shared) : Prop := (∃ h' tk, s' = { s with heap := h', toks := tk }) ∧ ∀ b o, s.heap.get? b = some o → s'.heap.get? b = some o
theorem Grown.moved {s s1 s2 : Shared} {wr : List Addr} (g : Grown s s1) (m : Moved wr (fun a b => b = a) s1 s2) (hw : ∀ b ∈ wr, s.heap.objs.size ≤ b) : Grown s s2 := by
  obtain ⟨⟨h1, t1, rfl⟩, k⟩ := g
  have e1 : s2.gens = s.gens := m.gens
  have e2 : s2.drawn = s.drawn := m.drawn
  have e3 : s2.os = s.os := m.os
  refine ⟨⟨s2.heap, s2.toks, ?_⟩, fun b o e => m.heap b o (fun hb => ?_) (k b o e)⟩
  · obtain ⟨hp, g, d, tk, os⟩ := s2
    dsimp only at e1 e2 e3
    subst e1 e2 e3
    rfl
  · exact absurd (Nat.lt_of_lt_of_le (Heap.lt_size e) (hw b hb)) (Nat.lt_irrefl b)
theorem paired_get {α β : Type} {F : α → β → Prop} : ∀ {xs : List α} {ys : List β}, Paired F xs ys → ∀ (i : Nat) (y : β), ys[i]? = some y → ∃ x, xs[i]? = some x ∧ F x y
  | _, _, .nil, i, y, e => by simp at e
  | _, _, .cons h t, 0, y, e => by cases e; exact ⟨_, rfl, h⟩
  | _, _, .cons h t, i + 1, y, e => paired_get t i y e
theorem call_minLen (hc : X.calm = true) (I : Inv X pins σ H s) {l : Addr} {us : List V} {ns : List Nat} (hs : SqL X.K H l us) (hn : us.length = ns.length) (hi : ∀ (i : Nat) (u : V), us[i]? = some u → ∃ a vs, u = .ref a ∧ SqL X.K H a vs ∧ vs.length = ns.getD i 0)
    (h0 : us = [] → Q .non H) (h1 : ∀ u, us[atMin ns]? = some u → Q u H) :
    wpAny (model X.prog X.w) X.A (call (.builtin "min") [.ref l] [(Str.ofString "key", .builtin "len"), (Str.ofString "default", .none)]) (EP X pins σ Q) X.xe s := by
  obtain ⟨its, rv, hl, hz⟩ := I.list hs
  have hsz : its.toArray.size = ns.length := by rw [List.size_toArray, ← rv.length, hn]
  have item : ∀ (i : Nat) (v : Value), its.toArray[i]? = some v → ∃ a, v = .ref a ∧ ∃ w : Array Value, s.heap.IsList a w ∧ w.size = ns.getD i 0 ∧ w.size ≤ sizeLine := fun i v e => by
    rw [List.getElem?_toArray] at e
    obtain ⟨u, eu, r⟩ := paired_get rv i v e
    obtain ⟨a, vs, rfl, sq, hlen⟩ := hi i u eu
    obtain rfl : v = Value.ref a := r
    obtain ⟨its2, rv2, hl2, hz2⟩ := I.list sq
    exact ⟨a, rfl, its2.toArray, hl2.isList, by rw [List.size_toArray, ← rv2.length, hlen], by rw [List.size_toArray, ← rv2.length]; exact hz2⟩
  refine call_min_walkKBD (PySem.W.iter_listW (A := X.A.in1) (I.ok.hd hc) hl.isList fun s₂ e W st hfp hw hk => ?_)
  refine ⟨_, _, _, _, _, _, _, Grown s, fun i k _ => ∃ t, k = Value.int (ns.getD i 0 : Int) t, fun i j => decide ((ns.getD i 0 : Int) < (ns.getD j 0 : Int)), rfl, W, st, hfp, ⟨fun s1 s2 g m => g.moved m fun b hb => ?_, fun i k s1 s2 hv _ => hv, fun i v s1 o Q' E' hin hP hJ hSt hS hQ => ?_, fun i j ki kj s1 Q' E' hJ hv hv' hq => ?_⟩, ⟨⟨s₂.heap, s₂.toks, by subst e; rfl⟩, hk⟩, fun hz0 s' hJ => ?_, fun hp v s' hP hJ => ?_⟩
  · rcases List.mem_cons.mp hb with rfl | hb
    · subst e
      show s.heap.objs.size ≤ (s.heap.push _).objs.size
      rw [Heap.size_push]
      exact Nat.le_succ _
    · rw [List.mem_singleton.mp hb]; exact Nat.le_refl _
  · obtain ⟨a, rfl, w, hw2, hlen, hbig⟩ := item i v hP
    have hw3 : s1.heap.IsList a w := by
      obtain ⟨o1, e1, r1⟩ := hw2
      exact ⟨o1, hJ.2 _ _ e1, r1⟩
    refine PySem.Calls.call_len_list hw3 (by
      have : sizeLine ≤ 2 ^ 40 := by decide
      omega) ?_
    refine hQ _ _ ⟨?_, hJ.2⟩ hSt hS ⟨_, by rw [hlen]⟩ fun j k' h => h
    obtain ⟨⟨h', tk, rfl⟩, _⟩ := hJ
    exact ⟨h', _, rfl⟩
  · obtain ⟨t, rfl⟩ := hv
    obtain ⟨t', rfl⟩ := hv'
    exact lt_int hq
  · obtain ⟨⟨h', tk, rfl⟩, k⟩ := hJ
    exact ⟨.non, H, I.kept (t' := tk) k, rfl, h0 (List.eq_nil_of_length_eq_zero (by omega))⟩
  · obtain ⟨⟨h', tk, rfl⟩, k⟩ := hJ
    rw [hsz] at hP
    have hP : its.toArray[atMin ns]? = some v := hP
    rw [List.getElem?_toArray] at hP
    obtain ⟨u, eu, r⟩ := paired_get rv _ v hP
    exact ⟨u, H, I.kept (t' := tk) k, r, h1 u eu⟩
def tMinLen (K : PySem.W.Frag) (t : TA) : TE := fun σ H Q => t σ H fun vs H1 => rMinLen K vs H1 Q
theorem pe_minLen {K : PySem.W.Frag} {a ed : Expr} {t : TA} {p p2 kp kp2 pos : Pos} (hK : X.K = K) (hc : X.calm = true) (hg : Gl X "min") (hm : X.mg "min" = none) (hg2 : Gl X "len") (hm2 : X.mg "len" = none) (ha : PA X [a] t) (hd : PE X ed (tC .non))
    (he : backTo pos (starEach [a] X.env) = (false, eval a X.env) :: backTo pos (starEach [] X.env) := by rfl) (hpl : (backTo pos (starEach [a] X.env)).any (·.1) = false := by rfl) :
    PE X (.Call (.Name "min" p) [a] [⟨some "key", .Name "len" p2, kp⟩, ⟨some "default", ed, kp2⟩] pos) (tMinLen K t) := by
  subst hK
  refine ⟨fun pins s σ H Q I h => ?_⟩
  refine wpAny_Call_Name_kw (ld_blt I hg hm (u := .builtin "min") (by decide +kernel) ?_)
  refine PyProof.Rows.callWith_kw (thn (ha.run pos pins s σ H _ I h) fun us s1 ⟨vs, H1, I1, r1, q1⟩ => ?_) he hpl rfl rfl
  obtain ⟨l, ws, ns, rfl, a1, a2, a3, a4, a5⟩ := q1
  refine PyProof.Rows.kwAll_cons (ld_blt I1 hg2 hm2 (u := .builtin "len") (by decide +kernel) ?_)
  refine PyProof.Rows.kwAll_cons (thn (hd.run pins s1 σ H1 (fun v H2 => v = .non ∧ H2 = H1) I1 ⟨rfl, rfl⟩) fun u s2 ⟨v, H2, I2, rv, e1, e2⟩ => PyProof.Rows.kwAll_nil ?_)
  subst e1 e2
  obtain rfl := Vals.ref1 r1
  obtain rfl : u = Value.none := rv
  exact call_minLen hc I2 a1 a2 a3 a4 a5
end
section
variable {K : PySem.W.Frag} {rs R : Grp} {H Ho : Hp} {σ : L2.St} {Q : VK} {v : V} {α : Type} [Py α] {t : TA}
theorem y_mln (k : t σ H fun vs H1 => rMinLen K vs H1 Q) : tMinLen K t σ H Q := k
theorem y_minLen {xs : List (List α)} (d : LV K rs Ho v xs) (z : Zs rs H Ho) (k : ∀ u, Z.D K Ho u (mnLen xs) → Q u H) : rMinLen K [v] H Q := by
  obtain ⟨l, us, rfl, dl, sq⟩ := LV.rd d z
  have hlen : us.length = (xs.map (·.length)).length := by rw [dl.len, List.length_map]
  refine ⟨l, us, xs.map (·.length), rfl, sq, hlen, fun i u hu => ?_, fun e => ?_, fun u hu => ?_⟩
  · have hi := (List.getElem?_eq_some_iff.mp hu).1
    have hi : i < xs.length := by rw [← dl.len]; exact hi
    have hx := List.getElem?_eq_getElem hi
    obtain ⟨w, ew, dw⟩ := dl.get hx
    rw [hu] at ew
    cases ew
    have dw : Dq K Ho u (.list (xs[i].map Py.toPy)) := dw
    cases dw with
    | lst hs hd =>
      refine ⟨_, _, rfl, z.le.seq hs, ?_⟩
      rw [dpAll_len hd, List.length_map, List.getD_eq_getElem?_getD, List.getElem?_map, hx]
      rfl
  · have hx : xs = [] := List.length_eq_zero_iff.mp (by rw [← dl.len, e]; rfl)
    refine k _ ?_
    rw [hx]
    exact Dq.non
  · have hx : ∃ x, xs[atMin (xs.map (·.length))]? = some x := by
      have hi := (List.getElem?_eq_some_iff.mp hu).1
      exact ⟨_, List.getElem?_eq_getElem (show _ < xs.length by rw [← dl.len]; exact hi)⟩
    obtain ⟨x, ex⟩ := hx
    obtain ⟨w, ew, dw⟩ := dl.get ex
    rw [hu] at ew
    cases ew
    refine k _ ?_
    unfold mnLen
    rw [ex]
    exact dw
end
/-! displays of dicts with one key -/
section
variable {X : Cx} {pins : List (Addr × Obj)} {σ : L2.St} {s : Shared} {H Ho : Hp} {Q : VK} {tk tv : TE} {K : PySem.W.Frag} {R : Grp} {α β : Type} [Py α] {v w : V}
def Dsp1T (Q : VK) (p : Addr) (x y : V) (H : Hp) : Prop := ∃ (b : Addr) (k : List L2.Key), x = .ref b ∧ H b = some (.tup (k.map kV)) ∧ H p = some (.dT []) ∧ Q (.ref p) (upd H p (.dT [(k, y)]))
def tDisp1T (tk tv : TE) : TE := fun σ H Q => ∀ p, H p = none → tk σ (upd H p (.dT [])) fun x H1 => tv σ H1 fun y H2 => Dsp1T Q p x y H2
theorem pe_disp1T {pos : Pos} {ke ve : Expr} (hu : X.A.units + 1 < cLine) (hk : PE X ke tk) (hv : PE X ve tv) : PE X (.Dict [some ke] [ve] pos) (tDisp1T tk tv) := by
  refine ⟨fun pins s σ H Q I q => ?_⟩
  have hn := I.hok.fresh (Nat.le_refl s.heap.objs.size)
  have I1 := I.laid (a := s.heap.objs.size) (o := .dT []) (h' := s.heap.push { cls := .type "dict", data := .dict #[] }) (t' := s.toks) (fun _ _ q => Heap.get?_push_of_some _ q) (Nat.le_refl _) (dt_empty s.heap I.big)
  rw [arm_eval_Dict, zip_pairTrees [some ke] [ve] X.env pos rfl rfl, dictDisplay_pairs _ (by simp [pairTrees]) (by show 1 < 17; decide)]
  refine wpAny_bind (wpAny_standAt (wpAny_bind (wpAny_subDictH (knd := tupleKind (mixKind X.prog X.w)) (Q := fun d s' => wpAny (model X.prog X.w) X.A (pure (Value.ref d)) (EP X pins σ Q) X.xe s') (show X.A.units < cLine by omega) (by show 1 ≤ 15; decide) ?_)))
  refine pairTrees_cons_walk (thn (hk.run pins _ σ _ _ I1 (q _ hn)) fun u s1 ⟨x, H1, I2, rx, q1⟩ => thn (hv.run pins s1 σ H1 _ I2 q1) fun w2 s2 ⟨y, H2, I3, ry, b, k, ex, eb, ep, q2⟩ => pairTrees_nil_walk ?_)
  subst ex
  obtain rfl : u = Value.ref b := rx
  obtain ⟨zz, hd, xs, rel, dd⟩ := dt_of I3.hok ep
  have ex : xs = [] := by cases rel; rfl
  subst ex
  refine ⟨[(k, b, w2)], ⟨rfl, rfl, key_of I3.hok eb, trivial⟩, dd, fun h' tk dd' hs => wpAny_pure ⟨.ref s.heap.objs.size, upd H2 s.heap.objs.size (.dT [(k, y)]), ?_, rfl, q2⟩⟩
  obtain ⟨o, es, ep', hq, g2, g3, g4, g4', g5⟩ := dd'
  refine d_write I3 (by rw [ep]; exact True.intro) hs ⟨o, hq⟩ ⟨by show 1 ≤ sizeLine; decide, hd, _, (rel.put k eb ry).keeps fun c ys ec => ?_, o, es, ep', hq, g2, g3, g4, g5⟩
  rw [upd_ne (ne_of ec ep (fun z => nomatch z))]
  exact ec
theorem k_disp1T (z : Zs R H Ho) (k : ∀ p H', Zs ([(p, HO.dT [])] ++ R) H' Ho → tk σ H' fun x H1 => tv σ H1 fun y H2 => Dsp1T Q p x y H2) : tDisp1T tk tv σ H Q := fun p hp => k p _ (z.root hp)
theorem g_disp1T {p : Addr} {k : P4 Int Int Int Int} {a : α} (z : Zs ([(p, HO.dT [])] ++ R) H Ho) (dk : Z.D K Ho v k) (dv : Z.D K Ho w a) (kk : ∀ g H', Zs (g ++ R) H' Ho → OD K Ho (.ref p) ([(k, a)] : Dc (P4 Int Int Int Int) α) g → Q (.ref p) H') : Dsp1T Q p v w H := by
  cases dk with
  | tup hs ha =>
    cases ha with
    | cons h1 ha => cases ha with
      | cons h2 ha => cases ha with
        | cons h3 ha => cases ha with
          | cons h4 ha =>
            cases ha
            rw [d_int h1, d_int h2, d_int h3, d_int h4] at hs
            exact ⟨_, [.inl k.a, .inl k.b, .inl k.c, .inl k.d], rfl, z.le _ _ hs, z.head, kk _ _ z.put ⟨p, [(_, w)], rfl, ⟨rfl, .cons dv .nil⟩, rfl⟩⟩
def Dsp1K (Q : VK) (p : Addr) (x y : V) (H : Hp) : Prop := H p = some (.dK []) ∧ ∃ kvs : List (L2.Key × V), [(x, y)] = kvs.map (fun kv => (kV kv.1, kv.2)) ∧ kvs.length ≤ 15 ∧ Q (.ref p) (upd H p (.dK (mergeK [] kvs)))
theorem k_disp1K (z : Zs R H Ho) (k : ∀ p H', Zs ([(p, HO.dK [])] ++ R) H' Ho → tk σ H' fun x H1 => tv σ H1 fun y H2 => Dsp1K Q p x y H2) : tDisp [(tk, tv)] σ H Q := fun p hp => k p _ (z.root hp)
theorem g_disp1K {p : Addr} {i : Int} {a : α} (z : Zs ([(p, HO.dK [])] ++ R) H Ho) (dv : Z.D K Ho w a) (kk : ∀ g H', Zs (g ++ R) H' Ho → OD K Ho (.ref p) ([(i, a)] : Dc Int α) g → Q (.ref p) H') : Dsp1K Q p (.int i) w H :=
  ⟨z.head, [(.inl i, w)], rfl, by show 1 ≤ 15; decide, kk _ _ z.put ⟨p, [(.inl i, w)], rfl, ⟨rfl, .cons dv .nil⟩, rfl⟩⟩
theorem pe_disp1K {pos : Pos} {ke ve : Expr} (hk : PE X ke tk) (hv : PE X ve tv) : PE X (.Dict [some ke] [ve] pos) (tDisp [(tk, tv)]) := pe_disp (pps_cons hk hv pps_nil) rfl rfl (by simp) (by show 1 ≤ 15; decide)
end
/-! xs.remove(x) of four ints -/
section
theorem plain4 {x : P4 Int Int Int Int} : PyData.plain (toPy x) = true := rfl
theorem plain4s : ∀ {xs : List (P4 Int Int Int Int)}, PyData.plainAll (xs.map Py.toPy) = true
  | [] => rfl
  | x :: xs => by
    show (PyData.plain (toPy x) && PyData.plainAll (xs.map Py.toPy)) = true
    rw [plain4, plain4s (xs := xs)]; rfl
theorem lay4s : ∀ {xs : List (P4 Int Int Int Int)}, PyData.canLayAll0 (xs.map Py.toPy) = true
  | [] => rfl
  | x :: xs => by
    show (PyData.canLay0 (toPy x) && PyData.canLayAll0 (xs.map Py.toPy)) = true
    rw [lay4s (xs := xs), Bool.and_true]; rfl
theorem depth4s {xs : List (P4 Int Int Int Int)} {x : P4 Int Int Int Int} : min (PyData.depthAll (xs.map Py.toPy)) (toPy x).depth ≤ 10 := Nat.le_trans (Nat.min_le_right _ _) (Nat.le_of_ble_eq_true rfl)
def rem4 (xs : List (P4 Int Int Int Int)) (x : P4 Int Int Int Int) : W (List (P4 Int Int Int Int)) := W.bind (W.opt (xs.findIdx? fun y => eqD y x)) fun j => W.ret (xs.eraseIdx j)
def rRem4 (K : PySem.W.Frag) : V → List V → Hp → VK → Prop := fun v vs H Q => ∃ (l : Addr) (u : V) (ws : List V) (x : P4 Int Int Int Int) (xs : List (P4 Int Int Int Int)) (j : Nat), v = .ref l ∧ vs = [u] ∧ H l = some (.lst ws) ∧ Z.D K H u x ∧ DL K H ws xs ∧ (xs.findIdx? fun y => eqD y x) = some j ∧ Q .non (upd H l (.lst (ws.eraseIdx j)))
variable {X : Cx} {K : PySem.W.Frag} {H Ho : Hp} {R : Grp} {Q : VK} {v w : V} {γ : Type} {Φ : γ → Prop}
theorem mt_rem4 (hu : X.A.units + 65 < cLine) : MtM X "list.remove" (rRem4 X.K) := by
  intro pins s σ H v vs u us Q I rx rv h
  obtain ⟨l, w, ws, x, xs, j, rfl, rfl, hH, dx, dl, hj, q⟩ := h
  cases rx
  obtain ⟨uy, rfl, ru⟩ := rv.one
  obtain ⟨z, its, n, r, hl, e⟩ := I.lstM hH
  obtain ⟨bs, r1⟩ := Dp.reads I _ _ uy (Dq.dp _ _ rfl dx) ru
  obtain ⟨as, r2⟩ := Dp.readsAll I _ _ its (DqAll.dp _ _ lay4s dl) r
  have hL : s.heap.IsList l its.toArray := ⟨_, e, rfl, _, rfl⟩
  have hp : PySem.SeqAt.dataPlace (xs.map Py.toPy) (toPy x) = some j := by
    unfold PySem.SeqAt.dataPlace
    rw [List.findIdx?_map]
    exact hj
  refine PySem.SeqAt.remove_list_data hL r2 r1 plain4s plain4 (by have := depth4s (xs := xs) (x := x); show X.A.units + 1 + _ < _; omega) hp (by rw [List.size_toArray]; omega) ?_
  refine ⟨.non, _, I.lset (its' := its.eraseIdx j) hH e ?_ (r.eraseIdx j) ?_, rfl, q⟩
  · show its.toArray.eraseIdxIfInBounds j = (its.eraseIdx j).toArray
    rw [List.eraseIdxIfInBounds_toArray]
  · have := List.length_eraseIdx_le its j
    have := List.length_eraseIdx_le ws j
    omega
theorem zmt_rem4 (hK : X.K = K) (hu : X.A.units + 65 < cLine) : MtM X "list.remove" (rRem4 K) := hK ▸ mt_rem4 hu
theorem g_rem4 {x : P4 Int Int Int Int} {xs : List (P4 Int Int Int Int)} {g : Grp} {f : List (P4 Int Int Int Int) → W γ} (z : Zs (g ++ R) H Ho) (o : OL K Ho v xs g) (dx : Z.D K Ho w x) (hw : (W.bind (rem4 xs x) f).run Φ) (k : ∀ xs' g' H', Zs (g' ++ R) H' Ho → OL K Ho v xs' g' → (f xs').run Φ → Q .non H') : rRem4 K v [w] H Q := by
  obtain ⟨p, vs, rfl, d, rfl⟩ := o
  obtain ⟨j, hj, hw⟩ := hw
  refine ⟨p, w, vs, x, xs, j, rfl, rfl, z.head, D.mo dx z.le, DL.mo d z.le, hj, k _ _ _ z.put ⟨p, _, rfl, ?_, rfl⟩ hw⟩
  show DqAll _ _ _ ((xs.eraseIdx j).map Py.toPy)
  rw [map_erase]
  exact dpAll_erase d j
end
/-! None, True or False -/
section
variable {K : PySem.W.Frag} {H Ho : Hp} {Q : VK} {v : V}
def rIsOB : R2 := fun x y H Q => ∃ t : Bool, y = .bl t ∧ ((x = .non ∧ Q (.bl false) H) ∨ ∃ a, x = .bl a ∧ Q (.bl (decide (a = t))) H)
def rNotOB : R2 := fun x y H Q => ∃ t : Bool, y = .bl t ∧ ((x = .non ∧ Q (.bl true) H) ∨ ∃ a, x = .bl a ∧ Q (.bl (!decide (a = t))) H)
theorem op_isOB {X : Cx} : OpR X (compareOp .Is) rIsOB := by
  intro pins s σ H x y v u Q I rx ry h
  obtain ⟨t, rfl, ⟨rfl, q⟩ | ⟨a, rfl, q⟩⟩ := h
  · cases (show v = Value.none from rx)
    cases (show u = Value.bool t from ry)
    exact wpAny_is_other rfl (fun z => nomatch z) ⟨.bl false, H, I, rfl, q⟩
  · exact op_isBl pins s σ H _ _ v u Q I rx ry ⟨a, t, rfl, rfl, q⟩
theorem op_notOB {X : Cx} : OpR X (compareOp .IsNot) rNotOB := by
  intro pins s σ H x y v u Q I rx ry h
  obtain ⟨t, rfl, ⟨rfl, q⟩ | ⟨a, rfl, q⟩⟩ := h
  · cases (show v = Value.none from rx)
    cases (show u = Value.bool t from ry)
    exact wpAny_isNot_other rfl (fun z => nomatch z) ⟨.bl true, H, I, rfl, q⟩
  · exact op_notBl pins s σ H _ _ v u Q I rx ry ⟨a, t, rfl, rfl, q⟩
theorem y_isOB {o : Option Bool} {t : Bool} (d : Z.D K Ho v o) (k : Q (.bl (decide (o = some t))) H) : rIsOB v (.bl t) H Q := by
  cases o with
  | none => cases (d : Dq K Ho v .none); exact ⟨t, rfl, .inl ⟨rfl, k⟩⟩
  | some a => cases (d : Dq K Ho v (.bool a)); exact ⟨t, rfl, .inr ⟨a, rfl, by simpa using k⟩⟩
theorem y_notOB {o : Option Bool} {t : Bool} (d : Z.D K Ho v o) (k : Q (.bl (!decide (o = some t))) H) : rNotOB v (.bl t) H Q := by
  cases o with
  | none => cases (d : Dq K Ho v .none); exact ⟨t, rfl, .inl ⟨rfl, k⟩⟩
  | some a => cases (d : Dq K Ho v (.bool a)); exact ⟨t, rfl, .inr ⟨a, rfl, by simpa using k⟩⟩
end
end Z

/-! # the least of a list of tuples of four ints, None where there is none -/
namespace Z
open PySem PySem.Spec PyProof.Rows L2
abbrev N4 := P4 Int Int Int Int
def tup4 (x : N4) : PySem.W.Tup Int := ⟨[x.a, x.b, x.c, x.d]⟩
def lt4 (x y : N4) : Bool := PySem.W.DatumOrd.lt (tup4 x) (tup4 y)
def mn4 : List N4 → Option N4
  | [] => none
  | x :: xs => some (xs.foldl (fun a y => if lt4 y a = true then y else a) x)
theorem minOf4 : ∀ (xs : List N4) (x : N4), PySem.W.minOf (tup4 x) (xs.map tup4) = tup4 (xs.foldl (fun a y => if lt4 y a = true then y else a) x)
  | [], _ => rfl
  | y :: ys, x => by
    have ih := minOf4 ys (if lt4 y x = true then y else x)
    unfold PySem.W.minOf at ih ⊢
    rw [List.map_cons, List.foldl_cons, List.foldl_cons, ← ih]
    congr 1
    show (if lt4 y x = true then tup4 y else tup4 x) = _
    split <;> rfl
theorem tup4_inj {x y : N4} (h : tup4 x = tup4 y) : x = y := by
  obtain ⟨a, b, c, d⟩ := x
  obtain ⟨a', b', c', d'⟩ := y
  injection h with h
  simp only [List.cons.injEq, and_true] at h
  obtain ⟨h1, h2, h3, h4⟩ := h
  rw [h1, h2, h3, h4]
theorem toD4 {x : N4} : PySem.W.Datum.toD (tup4 x) = toPy x := rfl
def rMn4 (K : PySem.W.Frag) : List V → List V → Hp → VK → Prop := fun vs zs H Q => ∃ (a : Addr) (ws : List V) (xs : List N4), vs = [.ref a] ∧ zs = [.non] ∧ SqL K H a ws ∧ DL K H ws xs ∧ (xs = [] → Q .non H) ∧ ∀ (i : Nat) (w : V) (x : N4), ws[i]? = some w → xs[i]? = some x → mn4 xs = some x → Q w H
section
variable {X : Cx} {K : PySem.W.Frag} {H Ho : Hp} {R rs : Grp} {Q : VK} {v : V}
theorem zmn4 (hK : X.K = K) (hc : X.calm = true) (hu : X.A.units + 64 < cLine) : CallRK X (.builtin "min") [Str.ofString "default"] (rMn4 K) := by
  subst hK
  intro pins s σ H vs zs us ws Q I r rz h
  obtain ⟨a, wv, xs, rfl, rfl, hs, dl, q0, q⟩ := h
  obtain rfl := Vals.ref1 r
  obtain ⟨w1, rfl, rw1⟩ := vals1 rz
  cases (show w1 = Value.none from rw1)
  obtain ⟨its, rv, hl, hz⟩ := I.list hs
  obtain ⟨as, ra⟩ := Dp.readsAll I _ _ its (DqAll.dp _ _ lay4s dl) rv
  have hold : PySem.W.HoldAll s.heap its (xs.map tup4) := ⟨as, by rw [List.map_map]; exact ra⟩
  refine PySem.W.min_list_datum_default (α := PySem.W.Tup Int) (xs := xs.map tup4) (I.ok.hd hc) hl.isList hold (by show X.A.units + 1 + 1 < cLine; omega) (fun e h' tk k => ⟨.non, H, I.kept (t' := tk) k, rfl, q0 (List.map_eq_nil_iff.mp e)⟩) fun y ys i v h' tk e hi hh k => ?_
  have hi' : its[i]? = some v := by simpa using hi
  obtain ⟨t, ht, ho⟩ := hold.at hi'
  rw [List.getElem?_map] at ht
  cases ex : xs[i]? with
  | none => rw [ex] at ht; cases ht
  | some x =>
    rw [ex] at ht
    cases ht
    have hx := (List.getElem?_eq_some_iff.mp ex).1
    have hl1 : wv.length = xs.length := DL.len dl
    obtain ⟨w, hw⟩ : ∃ w, wv[i]? = some w := ⟨_, List.getElem?_eq_getElem (by omega)⟩
    obtain ⟨u, hu1, ru⟩ := Vals.get rv hw
    rw [hi'] at hu1
    cases hu1
    refine ⟨w, H, I.kept (t' := tk) k, ru, q i w x hw ex ?_⟩
    cases xs with
    | nil => cases e
    | cons z zs =>
      rw [List.map_cons] at e
      injection e with e1 e2
      subst e1 e2
      obtain ⟨bs, r1⟩ := ho.keeps k
      obtain ⟨cs, r2⟩ := hh
      have := PySem.SeqAt.Reads.unique _ _ _ _ _ (show (PySem.W.Datum.toD (tup4 x)).canLay0 = true from rfl) r1 r2
      rw [minOf4] at this
      show some _ = some x
      congr 1
      refine (tup4_inj ?_).symm
      have e3 : ∀ a b : PySem.W.Tup Int, PySem.W.Datum.toD a = PySem.W.Datum.toD b → a = b := fun a b h => by
        have := PySem.W.Datum.eqv a b
        rw [h, PySem.W.Datum.eqv b b, decide_eq_true rfl] at this
        exact of_decide_eq_true this.symm
      exact e3 _ _ this
theorem y_mn4 {xs : List N4} (d : LV K rs Ho v xs) (z : Zs rs H Ho) (k : ∀ w, Z.D K Ho w (mn4 xs) → Q w H) : rMn4 K [v] [.non] H Q := by
  obtain ⟨p, vs, rfl, d1, s⟩ := LV.rd d z
  refine ⟨p, vs, xs, rfl, rfl, s, DL.mo d1 z.le, fun e => ?_, fun i w x hw hx e => ?_⟩
  · subst e; exact k _ Dq.non
  · refine k w ?_
    rw [e]
    have := dpAll_get d1 (i := i) (d := toPy x) (by rw [List.getElem?_map, hx]; rfl)
    obtain ⟨u, hu, du⟩ := this
    rw [hw] at hu
    cases hu
    exact du
end
end Z

/-! # len(range(n)) -/
namespace Z
open PySem PySem.Spec PyProof.Rows L2
def tLenRg (te : L2.St → Hp → (Int → Int → Hp → Prop) → Prop) : TE := fun σ H Q => te σ H fun a b H1 => RgOk a b ∧ Q (.int ((b - a).toNat : Nat)) H1
section
variable {X : Cx} {e : Expr} {te : L2.St → Hp → (Int → Int → Hp → Prop) → Prop} {σ : L2.St} {H : Hp} {Q : VK}
theorem pe_lenRg {p pos : Pos} (hg : Gl X "len") (hm : X.mg "len" = none) (hv : bootBuiltins "len" = some (.builtin "len")) (he : PRg X e te) (na : starEach [e] X.env = (false, eval e X.env) :: starEach [] X.env := by rfl) : PE X (.Call (.Name "len" p) [e] [] pos) (tLenRg te) := by
  refine ⟨fun pins s σ H Q I h => ?_⟩
  refine Call_ (ld_blt I hg hm hv (PyProof.Rows.callWith_builtin1 (args_cons (thn (he pins s σ H _ I h) fun x s1 ⟨r, a, b, t, u, v, H1, ex, hr, I1, ok, q⟩ => args_nil ?_) na) na) (by decide) (by decide))
  subst ex
  obtain ⟨b1, b2, b3, b4, b5⟩ := ok
  refine call_len_range (n := (b - a).toNat) hr (rangeSize_nat a b) (by omega) ?_
  exact ⟨.int _, H1, I1.tok _, ⟨_, rfl⟩, q⟩
theorem k_lenRg (k : te σ H fun a b H1 => RgOk a b ∧ Q (.int ((b - a).toNat : Nat)) H1) : tLenRg te σ H Q := k
end
end Z

/-! # for x in reversed(range(n)) -/
namespace Z
open PySem PySem.Spec PyProof.Rows L2
def SrcRR (R : It → Hp → Prop) : V → Hp → Prop := fun x H1 => ∃ n, x = .int n ∧ -(2 ^ 62) ≤ (0 : Int) ∧ (0 : Int) < 2 ^ 62 ∧ -(2 ^ 62) ≤ n ∧ n < 2 ^ 62 ∧ R (Itc (0 + (((n - 0).toNat : Nat) : Int) - 1) (-1) (n - 0).toNat) H1
section
variable {K : PySem.W.Frag} {H Ho : Hp} {σ : L2.St} {R : It → Hp → Prop} {ta : TE}
theorem k_iRR (k : ta σ H (SrcRR R)) : iRevR (tRg1 ta) σ H R := k
theorem k_srcRR {n : Int} (hg : rngOk 0 n) (k : ∀ J, Trn K [] J (rngD (n - 1) (-1)) Ho → R J H) : SrcRR R (V.int n) H := by
  refine ⟨n, rfl, hg.1, hg.2.1, hg.2.2.1, hg.2.2.2, k _ ?_⟩
  by_cases h : 0 ≤ n
  · have e1 : 0 + (((n - 0).toNat : Nat) : Int) - 1 = n - 1 := by omega
    have e2 : (n - 0).toNat = (n - 1 - (-1)).toNat := by congr 1; omega
    rw [e1, e2]
    exact trn_rangeD
  · have e1 : 0 + (((n - 0).toNat : Nat) : Int) - 1 = -1 := by omega
    have e2 : (n - 0).toNat = ((-1 : Int) - (-1)).toNat := by rw [show n - 0 = n by omega]; omega
    have e3 : rngD (n - 1) (-1) = rngD (-1) (-1) := by unfold rngD; rw [show (n - 1 - (-1)).toNat = ((-1 : Int) - (-1)).toNat by omega]; simp
    rw [e1, e2, e3]
    exact trn_rangeD
theorem zpi_revR {X : Cx} {tg a : Expr} {ta : TE} {p pos p2 pos2 : Pos} (hg : Gl X "reversed") (hm : X.mg "reversed" = none) (hg2 : Gl X "range") (hm2 : X.mg "range" = none) (ha : PE X a ta)
    (na : starEach [a] X.env = (false, eval a X.env) :: starEach [] X.env := by rfl) (hs : starEach [Expr.Call (.Name "range" p2) [a] [] pos2] X.env = (false, eval (.Call (.Name "range" p2) [a] [] pos2) X.env) :: starEach [] X.env := by rfl) :
    PI X tg (.Call (.Name "reversed" p) [.Call (.Name "range" p2) [a] [] pos2] [] pos) (iRevR (tRg1 ta)) := pi_revR hg hm (prg_1 hg2 hm2 ha na) hs
end
end Z

/-! # zip(xs, ys, strict=True) over two lists of one length -/
namespace PySem
open Sem (wp)
abbrev IsZipS (h : Heap) (z TI TO : Addr) (f0 : Value) : Prop :=
  h.get? z = some { cls := .type "zip", dict := none, data := .fields #[f0, .bool false, .bool true, .ref TI, .ref TO], slots := #[] }
section
variable {prog : Program} {w : World} {A : Around} {E : Value → Shared → Prop} {s : Shared}
theorem wpAny_nextOrEnd_item {it l : Addr} {i : Nat} {items} {x : Value} {Q : Option Value → Shared → Prop} (hit : s.heap.IsListIter it l i) (hl : s.heap.IsList l items) (hx : items[i]? = some x)
    (hQ : ∀ h', h'.IsListIter it l (i + 1) → Heap.SameBut it s.heap h' → Q (some x) { s with heap := h' }) : wpAny (model prog w) A (Builtin.SmallTypes.nextOrEnd (.ref it)) Q E s := by
  unfold Builtin.SmallTypes.nextOrEnd
  exact wpAny_bind (wpAny_attempt (wpAny_nextOf_list_item hit hl hx fun h' a b => wpAny_pure (hQ h' a b)))
theorem wpAny_nextOrEnd_end {it l : Addr} {i : Nat} {items} {Q : Option Value → Shared → Prop} (hh : A.handled = none) (hit : s.heap.IsListIter it l i) (hl : s.heap.IsList l items) (hx : items[i]? = none)
    (hQ : ∀ h', Heap.ExtBut it s.heap h' → Q none { s with heap := h' }) : wpAny (model prog w) A (Builtin.SmallTypes.nextOrEnd (.ref it)) Q E s := by
  unfold Builtin.SmallTypes.nextOrEnd
  refine wpAny_bind (wpAny_attempt (wpAny_nextOf_list_end hh hit hl hx fun h' e hb he => ?_))
  obtain ⟨o, ho, hc⟩ := he
  refine wpAny_bind (wpAny_isInstance (T := "StopIteration") (b := true) ⟨o, ho, hc⟩ isSubtype_stop ?_)
  exact wpAny_pure (hQ h' hb)
theorem zipS_next_item {z TI TO i1 i2 l1 l2 : Addr} {k1 k2 : Nat} {xs ys : Array Value} {x y a b : Value} {Q : Value → Shared → Prop} (D : ZipApart z TI TO i1 i2 l1 l2)
    (hz : IsZipS s.heap z TI TO .none) (hTI : IsPair s.heap TI (.ref i1) (.ref i2)) (hTO : IsPair s.heap TO a b)
    (h1 : s.heap.IsListIter i1 l1 k1) (h2 : s.heap.IsListIter i2 l2 k2) (hl1 : s.heap.IsList l1 xs) (hl2 : s.heap.IsList l2 ys) (hx : xs[k1]? = some x) (hy : ys[k2]? = some y)
    (hQ : ∀ h', IsZipS h' z TI TO (rawInt s.heap.objs.size) → IsPair h' TO x y → h'.IsListIter i1 l1 (k1 + 1) → h'.IsListIter i2 l2 (k2 + 1) → IsPair h' s.heap.objs.size x y → h'.objs.size = s.heap.objs.size + 1 →
      (∀ c o, c ≠ z → c ≠ TO → c ≠ i1 → c ≠ i2 → s.heap.get? c = some o → h'.get? c = some o) → Q (.ref s.heap.objs.size) { s with heap := h' }) :
    wpAny (model prog w) A (Builtin.«zip.__next__» ⟨[.ref z], []⟩) (fun fin s' => ∃ v, fin = .done (.ret v) ∧ Q v s') E s := by
  show wpAny _ _ (field (.ref z) 2 >>= _) _ _ _
  refine wpAny_bind (wpAny_field hz rfl (x := .bool true) rfl ?_)
  show wpAny _ _ (field (.ref z) 3 >>= _) _ _ _
  refine wpAny_bind (wpAny_field hz rfl (x := .ref TI) rfl ?_)
  refine wpAny_bind (wpAny_seqItems hTI rfl ?_)
  show wpAny _ _ (Builtin.SmallTypes.ownedTupleIsFree (.ref z) >>= _) _ _ _
  refine wpAny_bind ?_
  unfold Builtin.SmallTypes.ownedTupleIsFree
  refine wpAny_bind (wpAny_field hz rfl (x := .none) rfl (wpAny_pure ?_))
  simp only [if_true]
  refine wpAny_bind (wpAny_rule ?_)
  refine wpAny_bind (wpAny_field hz rfl (x := .ref TO) rfl ?_)
  refine wpAny_bind (wpAny_setField_rec hz (by simp) fun h₁ hz₁ hs₁ => ?_)
  replace hz₁ : IsZipS h₁ z TI TO .ellipsis := hz₁
  refine wpAny_bind ?_
  simp only [List.zipIdx_cons, List.zipIdx_nil, List.forIn_cons, List.forIn_nil]

  refine wpAny_bind (wpAny_bind (wpAny_onRaise ?_))
  show wpAny _ _ (Builtin.SmallTypes.nextOrEnd (.ref i1)) _ _ _
  refine wpAny_nextOrEnd_item (h1.extBut hs₁.extBut D.i1z) (hl1.extBut hs₁.extBut D.l1z) hx fun h₂ h1₂ hs₂ => ?_
  have hTO₂ : IsPair h₂ TO a b := hs₂.extBut _ _ D.TOi1 (hs₁.extBut _ _ D.TOz hTO)
  refine wpAny_bind (wpAny_seqItems hTO₂ rfl ?_)
  refine wpAny_bind (wpAny_updateSeq_pair hTO₂ fun h₃ hTO₃ hs₃ => ?_)
  replace hTO₃ : IsPair h₃ TO x b := hTO₃
  refine wpAny_bind (wpAny_letGo (wpAny_pure ?_))

  refine wpAny_bind (wpAny_bind (wpAny_onRaise ?_))
  show wpAny _ _ (Builtin.SmallTypes.nextOrEnd (.ref i2)) _ _ _
  refine wpAny_nextOrEnd_item (((h2.extBut hs₁.extBut D.i2z).extBut hs₂.extBut D.i12.symm).extBut hs₃.extBut D.TOi2.symm)
    (((hl2.extBut hs₁.extBut D.l2z).extBut hs₂.extBut D.l2i1).extBut hs₃.extBut D.l2TO) hy fun h₄ h2₄ hs₄ => ?_
  have hTO₄ : IsPair h₄ TO x b := hs₄.extBut _ _ D.TOi2 hTO₃
  refine wpAny_bind (wpAny_seqItems hTO₄ rfl ?_)
  refine wpAny_bind (wpAny_updateSeq_pair hTO₄ fun h₅ hTO₅ hs₅ => ?_)
  replace hTO₅ : IsPair h₅ TO x y := hTO₅
  refine wpAny_bind (wpAny_letGo (wpAny_pure (wpAny_pure ?_)))

  refine wpAny_bind (wpAny_seqItems hTO₅ rfl ?_)
  refine wpAny_bind (wpAny_newTuple ?_)
  have hsz : h₅.objs.size = s.heap.objs.size := by rw [hs₅.1, hs₄.1, hs₃.1, hs₂.1, hs₁.1]
  have hz₅ : IsZipS h₅ z TI TO .ellipsis := hs₅.extBut _ _ D.TOz.symm (hs₄.extBut _ _ D.i2z.symm (hs₃.extBut _ _ D.TOz.symm (hs₂.extBut _ _ D.i1z.symm hz₁)))
  have hk₅ : ∀ c o, c ≠ z → c ≠ TO → c ≠ i1 → c ≠ i2 → s.heap.get? c = some o → h₅.get? c = some o := fun c o c1 c2 c3 c4 e =>
    hs₅.extBut _ _ c2 (hs₄.extBut _ _ c4 (hs₃.extBut _ _ c2 (hs₂.extBut _ _ c3 (hs₁.extBut _ _ c1 e))))
  have h1₅ : h₅.IsListIter i1 l1 (k1 + 1) := ((h1₂.extBut hs₃.extBut D.TOi1.symm).extBut hs₄.extBut D.i12).extBut hs₅.extBut D.TOi1.symm
  have h2₅ : h₅.IsListIter i2 l2 (k2 + 1) := h2₄.extBut hs₅.extBut D.TOi2.symm
  have hzlt : z < h₅.objs.size := Heap.lt_size hz₅
  have hTOlt : TO < h₅.objs.size := Heap.lt_size hTO₅
  have hi1lt : i1 < h₅.objs.size := by obtain ⟨_, e, _⟩ := h1₅; exact Heap.lt_size e
  have hi2lt : i2 < h₅.objs.size := by obtain ⟨_, e, _⟩ := h2₅; exact Heap.lt_size e
  show wpAny _ _ (Builtin.SmallTypes.ownedTupleHandOut (.ref z) (.ref h₅.objs.size) >>= _) _ _ _
  refine wpAny_bind ?_
  unfold Builtin.SmallTypes.ownedTupleHandOut
  have hz₆ : IsZipS (h₅.push { cls := .type "tuple", data := .seq #[x, y] }) z TI TO .ellipsis := Heap.get?_push_of_some _ hz₅
  refine wpAny_bind (wpAny_setField_rec hz₆ (by simp) fun h₇ hz₇ hs₇ => ?_)
  replace hz₇ : IsZipS h₇ z TI TO (rawInt h₅.objs.size) := hz₇
  refine wpAny_setField_rec hz₇ (by simp) fun h₈ hz₈ hs₈ => ?_
  replace hz₈ : IsZipS h₈ z TI TO (rawInt h₅.objs.size) := hz₈
  have up : ∀ c o, c ≠ z → h₅.get? c = some o → h₈.get? c = some o := fun c o c1 e => hs₈.extBut _ _ c1 (hs₇.extBut _ _ c1 (Heap.get?_push_of_some _ e))
  have hT₈ : IsPair h₈ h₅.objs.size x y := hs₈.extBut _ _ (Nat.ne_of_gt hzlt) (hs₇.extBut _ _ (Nat.ne_of_gt hzlt) (Heap.get?_push_size _ rfl))
  have hz8 : h₈.objs.size = h₅.objs.size + 1 := by rw [hs₈.1, hs₇.1, Heap.size_push]
  rw [hsz] at hz₈ hT₈ hz8
  refine wpAny_pure ⟨_, rfl, ?_⟩
  show Q (.ref h₅.objs.size) _
  rw [hsz]
  exact hQ h₈ hz₈ (up _ _ D.TOz hTO₅) (h1₅.at fun o e => up _ o D.i1z e) (h2₅.at fun o e => up _ o D.i2z e) hT₈ hz8 fun c o c1 c2 c3 c4 e => up c o c1 (hk₅ c o c1 c2 c3 c4 e)
theorem zipS_next_end {z TI TO i1 i2 l1 l2 : Addr} {k1 k2 : Nat} {xs ys : Array Value} {a b : Value} {Q : Fin → Shared → Prop} (hh : A.handled = none) (D : ZipApart z TI TO i1 i2 l1 l2)
    (hz : IsZipS s.heap z TI TO .none) (hTI : IsPair s.heap TI (.ref i1) (.ref i2)) (hTO : IsPair s.heap TO a b)
    (h1 : s.heap.IsListIter i1 l1 k1) (h2 : s.heap.IsListIter i2 l2 k2) (hl1 : s.heap.IsList l1 xs) (hl2 : s.heap.IsList l2 ys) (hx : xs[k1]? = none) (hy : ys[k2]? = none)
    (hE : ∀ h' e, (∀ c o, c ≠ z → c ≠ TO → c ≠ i1 → c ≠ i2 → s.heap.get? c = some o → h'.get? c = some o) → (∃ o, h'.get? e = some o ∧ o.cls = .type "StopIteration") → E (.ref e) { s with heap := h' }) :
    wpAny (model prog w) A (Builtin.«zip.__next__» ⟨[.ref z], []⟩) Q E s := by
  show wpAny _ _ (field (.ref z) 2 >>= _) _ _ _
  refine wpAny_bind (wpAny_field hz rfl (x := .bool true) rfl ?_)
  show wpAny _ _ (field (.ref z) 3 >>= _) _ _ _
  refine wpAny_bind (wpAny_field hz rfl (x := .ref TI) rfl ?_)
  refine wpAny_bind (wpAny_seqItems hTI rfl ?_)
  show wpAny _ _ (Builtin.SmallTypes.ownedTupleIsFree (.ref z) >>= _) _ _ _
  refine wpAny_bind ?_
  unfold Builtin.SmallTypes.ownedTupleIsFree
  refine wpAny_bind (wpAny_field hz rfl (x := .none) rfl (wpAny_pure ?_))
  simp only [if_true]
  refine wpAny_bind (wpAny_rule ?_)
  refine wpAny_bind (wpAny_field hz rfl (x := .ref TO) rfl ?_)
  refine wpAny_bind (wpAny_setField_rec hz (by simp) fun h₁ hz₁ hs₁ => ?_)
  replace hz₁ : IsZipS h₁ z TI TO .ellipsis := hz₁
  refine wpAny_bind ?_
  simp only [List.zipIdx_cons, List.zipIdx_nil, List.forIn_cons, List.forIn_nil]
  refine wpAny_bind (wpAny_bind (wpAny_onRaise ?_))
  show wpAny _ _ (Builtin.SmallTypes.nextOrEnd (.ref i1)) _ _ _
  refine wpAny_nextOrEnd_end hh (h1.extBut hs₁.extBut D.i1z) (hl1.extBut hs₁.extBut D.l1z) hx fun h₂ hs₂ => ?_
  have hz₂ : IsZipS h₂ z TI TO .ellipsis := hs₂ _ _ D.i1z.symm hz₁
  refine wpAny_bind (wpAny_setField_rec hz₂ (by simp) fun h₃ hz₃ hs₃ => ?_)
  have h2₃ : h₃.IsListIter i2 l2 k2 := ((h2.extBut hs₁.extBut D.i2z).extBut hs₂ D.i12.symm).extBut hs₃.extBut D.i2z
  have hl2₃ : h₃.IsList l2 ys := ((hl2.extBut hs₁.extBut D.l2z).extBut hs₂ D.l2i1).extBut hs₃.extBut D.l2z
  wp_walk using wpAny_nextOrEnd_end hh h2₃ hl2₃ hy
  intro h₄ hs₄
  rw [if_neg (by decide)]
  wp_walk
  simp only [raiseNew]
  refine wpAny_bind (wpAny_handled ?_)
  rw [show A.handled = none from hh]
  refine wpAny_bind (wpAny_pure (wpAny_throw ?_))
  refine hE _ _ (fun c o c1 _ c3 c4 e => ?_) ⟨_, Heap.get?_push_size _ rfl, rfl⟩
  exact Heap.get?_push_of_some _ (Heap.get?_push_of_some _ (hs₄ _ _ c4 (hs₃.extBut _ _ c1 (hs₂ _ _ c3 (hs₁.extBut _ _ c1 e)))))
theorem wpAny_pyNext_zipS_item {z TI TO i1 i2 l1 l2 : Addr} {k1 k2 : Nat} {xs ys : Array Value} {x y a b : Value} {Q : Option Value → Shared → Prop} (D : ZipApart z TI TO i1 i2 l1 l2)
    (hz : IsZipS s.heap z TI TO .none) (hTI : IsPair s.heap TI (.ref i1) (.ref i2)) (hTO : IsPair s.heap TO a b)
    (h1 : s.heap.IsListIter i1 l1 k1) (h2 : s.heap.IsListIter i2 l2 k2) (hl1 : s.heap.IsList l1 xs) (hl2 : s.heap.IsList l2 ys) (hx : xs[k1]? = some x) (hy : ys[k2]? = some y)
    (hQ : ∀ h', IsZipS h' z TI TO (rawInt s.heap.objs.size) → IsPair h' TO x y → h'.IsListIter i1 l1 (k1 + 1) → h'.IsListIter i2 l2 (k2 + 1) → IsPair h' s.heap.objs.size x y → h'.objs.size = s.heap.objs.size + 1 →
      (∀ c o, c ≠ z → c ≠ TO → c ≠ i1 → c ≠ i2 → s.heap.get? c = some o → h'.get? c = some o) → Q (some (.ref s.heap.objs.size)) { s with heap := h' }) :
    wpAny (model prog w) A (pyNext (.ref z)) Q E s := by
  have hT : s.TypeIs (.ref z) "zip" := ⟨_, hz, rfl⟩
  unfold pyNext
  exact wpAny_bind (wpAny_attempt (wpAny_callSpecial?_slot (name := Str.ofString "__next__") hT F.slot_zip_next
    (wpAny_call_entry F.slot_zip_next hT F.entry_zip_next
      (zipS_next_item D hz hTI hTO h1 h2 hl1 hl2 hx hy fun h' a1 a2 a3 a4 a5 a6 a7 => wpAny_pure (hQ h' a1 a2 a3 a4 a5 a6 a7)) (F.args_zip_next_1 _))))
theorem wpAny_pyNext_zipS_end {z TI TO i1 i2 l1 l2 : Addr} {k1 k2 : Nat} {xs ys : Array Value} {a b : Value} {Q : Option Value → Shared → Prop} (hh : A.handled = none) (D : ZipApart z TI TO i1 i2 l1 l2)
    (hz : IsZipS s.heap z TI TO .none) (hTI : IsPair s.heap TI (.ref i1) (.ref i2)) (hTO : IsPair s.heap TO a b)
    (h1 : s.heap.IsListIter i1 l1 k1) (h2 : s.heap.IsListIter i2 l2 k2) (hl1 : s.heap.IsList l1 xs) (hl2 : s.heap.IsList l2 ys) (hx : xs[k1]? = none) (hy : ys[k2]? = none)
    (hQ : ∀ h', (∀ c o, c ≠ z → c ≠ TO → c ≠ i1 → c ≠ i2 → s.heap.get? c = some o → h'.get? c = some o) → Q none { s with heap := h' }) : wpAny (model prog w) A (pyNext (.ref z)) Q E s := by
  have hT : s.TypeIs (.ref z) "zip" := ⟨_, hz, rfl⟩
  unfold pyNext
  refine wpAny_bind (wpAny_attempt (wpAny_callSpecial?_slot (name := Str.ofString "__next__") hT F.slot_zip_next
    (wpAny_call_entry F.slot_zip_next hT F.entry_zip_next (zipS_next_end hh D hz hTI hTO h1 h2 hl1 hl2 hx hy fun h' e hk he => ?_) (F.args_zip_next_1 _))))
  obtain ⟨o, ho, hc⟩ := he
  refine wpAny_bind (wpAny_isInstance (T := "StopIteration") (b := true) ⟨o, ho, hc⟩ isSubtype_stop ?_)
  exact wpAny_pure (hQ _ hk)
theorem wpAny_letOwnedTupleGo_zipS {elts : List Expr} {x1} {pos : Pos} {z TI TO T : Addr} {Q : Unit → Shared → Prop} (hz : IsZipS s.heap z TI TO (rawInt T))
    (hQ : ∀ h', IsZipS h' z TI TO .none → Heap.SameBut z s.heap h' → Q () { s with heap := h' }) :
    wpAny (model prog w) A (letOwnedTupleGo (.Tuple elts x1 pos) (.ref z) (.ref T)) Q E s := by
  unfold letOwnedTupleGo
  refine wpAny_bind (wpAny_load hz ?_)
  show wpAny _ _ (if (["enumerate", "zip", "dict_itemiterator", "dict_reverseitemiterator", "odict_iterator", "itertools.zip_longest", "itertools.pairwise"].contains "zip" &&
      (#[rawInt T, .bool false, .bool true, .ref TI, .ref TO] : Array Value)[0]? == some (rawInt T)) = true then _ else _) Q E s
  rw [if_pos (by simp)]
  refine wpAny_bind (wpAny_rule ?_)
  show wpAny _ _ (setField (.ref z) 0 .none) Q E s
  exact wpAny_setField_rec hz (by simp) fun h' hz' hs' => hQ h' hz' hs'
theorem wpAny_pyIter_zipS {z TI TO : Addr} {f0 : Value} {Q : Value → Shared → Prop} (hz : IsZipS s.heap z TI TO f0) (h : Q (.ref z) s) : wpAny (model prog w) A (pyIter (.ref z)) Q E s := by
  have hT : s.TypeIs (.ref z) "zip" := ⟨_, hz, rfl⟩
  refine wpAny_pyIter_slot hT F.slot_zip_iter (wpAny_call_entry F.slot_zip_iter hT F.entry_zip_iter ?_ (F.args_zip_iter_1 _))
  show wpAny _ _ (ret (.ref z)) _ _ s
  exact wpAny_pure ⟨_, rfl, "zip", _, hT, F.slot_zip_next.lookup, h⟩
end
/-! ### the call -/
abbrev kwStrict : List (Str × Value) := [(Str.ofString "strict", .bool true)]
theorem typeCall_zipS (a b : Value) : checkTypeCall "zip" ⟨[a, b], kwStrict⟩ = pure () := by kernel_rfl
theorem newCall_zipS (a b : Value) : checkBuiltinCall "zip.__new__" ⟨[.type "zip", a, b], kwStrict⟩ = pure () := by kernel_rfl
theorem args_object_initS (a b c : Value) : argsOk "object.__init__" ⟨[a, b, c], kwStrict⟩ := by
  unfold argsOk; rw [signature?_of (id := "object.__init__") (n := ['_', '_', 't', 'i', 'n', 'i', '_', '_']) (o := ['t', 'c', 'e', 'j', 'b', 'o']) (by kernel_rfl) F.owner_object]; kernel_rfl
section
variable {prog : Program} {w : World} {A : Around} {E : Value → Shared → Prop} {s : Shared}
theorem callType_meetsK {T newId initId : String} {Bn Bi : Builtin} {args : List Value} {kw : List (Str × Value)} {S : Spec} {Q Q₁ : Value → Shared → Prop} (ft : TypeCalled T newId initId)
    (hct : checkTypeCall T ⟨args, kw⟩ = pure ()) (hcn : checkBuiltinCall newId ⟨.type T :: args, kw⟩ = pure ())
    (entryN : entryFor table newId = some Bn) (entryI : entryFor table initId = some Bi) (g : Meets (Bn ⟨.type T :: args, kw⟩) S)
    (h : S A.in1 (wants Q₁ E) s)
    (hnext : ∀ obj s₁, Q₁ obj s₁ → s₁.TypeIs obj T ∧ argsOk initId ⟨obj :: args, kw⟩ ∧ ∃ Si, Meets (Bi ⟨obj :: args, kw⟩) Si ∧ Si A.in1 (wants (fun r s₂ => r = .none ∧ Q obj s₂) E) s₁) :
    wpAny (model prog w) A (call (.type T) args kw) Q E s := by
  obtain ⟨c, tl, hmro⟩ := ft.mro
  have hmade := ft.made
  have hsub := ft.sub
  refine wpAny_call (codeAny_of_tree ?_)
  show wpAny _ _ (callAny (.type T) _) _ _ _
  refine wpAny_pure ⟨Code.quiet_builtin _ (by decide +kernel), codeAny_builtin F.entry_type_call ?_⟩
  rw [Around.under_plain (weight_type_call_type T args kw) (units_type_call_type T args kw)]
  have h1 := ft.notType
  have h2 := ft.canCreate
  repeat (any_goals (first | assumption | wp_step))

  refine codeAny_mono (codeAny_call_builtin ft.plain entryN (wpAny_of_eq hcn (g prog w A.in1 _ s h))) fun r s₁ hr => ?_
  cases r with
  | error e => exact hr
  | ok fl =>
    cases fl with
    | ret obj =>
      obtain ⟨hT, hok, Si, gi, hsi⟩ := hnext _ _ hr
      have hli := ft.init.lookup
      have hbi := ft.init.bind obj
      repeat (any_goals (first | assumption | wp_step))

      refine codeAny_mono (codeAny_call_builtin ft.init.plain entryI (ft.init.check _ _ _ _ _ _ _ _ hT hok (gi prog w A.in1 _ s₁ hsi))) fun r₂ s₂ hr₂ => ?_
      cases r₂ with
      | error e => exact hr₂
      | ok fl₂ =>
        cases fl₂ with
        | ret r =>
          obtain ⟨rfl, hq⟩ := hr₂
          repeat (any_goals (first | assumption | wp_step))
        | _ => exact hr₂.elim
    | _ => exact hr.elim
theorem object_init_meetsK {T newId : String} {self a : Value} {rest : List Value} {kw : List (Str × Value)} (hl : typeLookup (.type T) "__init__" = pure (some (.builtin "object.__init__")))
    (hm : Bind.madeBy (.type T) = pure (some newId)) (hne : (some newId != some "object.__new__") = true) :
    Meets (Builtin.«object.__init__» ⟨self :: a :: rest, kw⟩) (fun _ R s => s.TypeIs self T ∧ R (.ok (.ret .none)) s) := by
  refine Meets.of_wp fun prog w A R s hs => ?_
  obtain ⟨hT, hq⟩ := hs
  repeat (any_goals (first | assumption | wp_step))
  exact ⟨_, rfl, hq⟩
end
abbrev zipS5 (h : Heap) (l1 l2 : Addr) : Heap := (zipH4 h l1 l2).push { cls := .type "zip", data := .fields #[.none, .bool false, .bool true, .ref (zipH2 h l1 l2).objs.size, .ref (zipH3 h l1 l2).objs.size] }
theorem meets_zipS_new (l1 l2 : Addr) (xs ys : Array Value) :
    Meets (Builtin.«zip.__new__» ⟨[.type "zip", .ref l1, .ref l2], kwStrict⟩) (fun _ R s => s.heap.IsList l1 xs ∧ s.heap.IsList l2 ys ∧
      R (.ok (.ret (.ref (zipH4 s.heap l1 l2).objs.size))) { s with heap := zipS5 s.heap l1 l2 }) :=
  .of_wp fun prog w A R s h => by
    obtain ⟨hp, g, d, tk, os⟩ := s; obtain ⟨hl1, hl2, h⟩ := h
    have hsub := sub_zip
    have hL1 : Heap.IsList (Shared.heap ⟨hp, g, d, tk, os⟩) l1 xs := hl1
    have hL2 : Heap.IsList (Shared.heap ⟨hp.push { cls := .type "list_iterator", data := .fields #[.ref l1, .int 0 0] }, g, d, tk, os⟩) l2 ys := Heap.IsList.push hl2 _
    wp_walk using wpAny_pyIter_list hL1, wpAny_pyIter_list hL2
    exact ⟨_, rfl, h⟩
section
variable {prog : Program} {w : World} {A : Around} {E : Value → Shared → Prop} {s : Shared}
theorem call_zipS_2 {l1 l2 : Addr} {xs ys : Array Value} {Q : Value → Shared → Prop} (hl1 : s.heap.IsList l1 xs) (hl2 : s.heap.IsList l2 ys)
    (h : ∀ h', IsZipS h' (s.heap.objs.size + 4) (s.heap.objs.size + 2) (s.heap.objs.size + 3) .none → IsPair h' (s.heap.objs.size + 2) (.ref s.heap.objs.size) (.ref (s.heap.objs.size + 1)) →
      IsPair h' (s.heap.objs.size + 3) .none .none → h'.IsListIter s.heap.objs.size l1 0 → h'.IsListIter (s.heap.objs.size + 1) l2 0 → h'.objs.size = s.heap.objs.size + 5 →
      (∀ c o, s.heap.get? c = some o → h'.get? c = some o) → Q (.ref (s.heap.objs.size + 4)) { s with heap := h' }) :
    wpAny (model prog w) A (call (.type "zip") [.ref l1, .ref l2] kwStrict) Q E s := by
  refine callType_meetsK (Q₁ := fun obj s₁ => s₁.TypeIs obj "zip" ∧ Q obj s₁) F.called_zip (typeCall_zipS _ _) (newCall_zipS _ _) F.entry_zip_new F.entry_object_init
    (meets_zipS_new l1 l2 xs ys) ⟨hl1, hl2, ?_⟩ fun obj _ hq => ⟨hq.1, args_object_initS obj _ _, _, object_init_meetsK F.called_zip.init.lookup F.called_zip.made (by decide), hq.1, rfl, hq.2⟩
  have z1 : (zipH1 s.heap l1).objs.size = s.heap.objs.size + 1 := Heap.size_push ..
  have z2 : (zipH2 s.heap l1 l2).objs.size = s.heap.objs.size + 2 := by rw [Heap.size_push, z1]
  have z3 : (zipH3 s.heap l1 l2).objs.size = s.heap.objs.size + 3 := by rw [Heap.size_push, z2]
  have z4 : (zipH4 s.heap l1 l2).objs.size = s.heap.objs.size + 4 := by rw [Heap.size_push, z3]
  have z5 : (zipS5 s.heap l1 l2).objs.size = s.heap.objs.size + 5 := by rw [Heap.size_push, z4]
  have g5 : (zipS5 s.heap l1 l2).get? (zipH4 s.heap l1 l2).objs.size = some _ := Heap.get?_push_size _ rfl
  have g4 : (zipS5 s.heap l1 l2).get? (zipH3 s.heap l1 l2).objs.size = some _ := Heap.get?_push_of_some _ (Heap.get?_push_size _ rfl)
  have g3 : (zipS5 s.heap l1 l2).get? (zipH2 s.heap l1 l2).objs.size = some _ := Heap.get?_push_of_some _ (Heap.get?_push_of_some _ (Heap.get?_push_size _ rfl))
  have g2 : (zipS5 s.heap l1 l2).get? (zipH1 s.heap l1).objs.size = some _ := Heap.get?_push_of_some _ (Heap.get?_push_of_some _ (Heap.get?_push_of_some _ (Heap.get?_push_size _ rfl)))
  have g1 : (zipS5 s.heap l1 l2).get? s.heap.objs.size = some _ := Heap.get?_push_of_some _ (Heap.get?_push_of_some _ (Heap.get?_push_of_some _ (Heap.get?_push_of_some _ (Heap.get?_push_size _ rfl))))
  show _ ∧ _
  rw [z2, z3, z4] at g5
  rw [z1, z2] at g3
  rw [z3] at g4
  rw [z1] at g2
  rw [z4]
  exact ⟨⟨_, g5, rfl⟩, h _ g5 g3 g4 ⟨_, g1, rfl, rfl⟩ ⟨_, g2, rfl, rfl⟩ z5 fun c o x =>
    Heap.get?_push_of_some _ (Heap.get?_push_of_some _ (Heap.get?_push_of_some _ (Heap.get?_push_of_some _ (Heap.get?_push_of_some _ x))))⟩
end
end PySem
namespace PyProof.Rows
open PySem
section
variable {M : Model} {A : Around} {E : Value → Shared → Prop} {s : Shared} {env : Env}
theorem callWith_typeKwB {pos : Pos} {T : String} {first : List Value} {args : List (Bool × Sem Value)} {keywords : List (Option Str × Sem Value)} {Q : Value → Shared → Prop}
    (hplain : args.any (·.1) = false) (hkw : keywords.any (·.1.isNone) = false)
    (h : wpAny M A (evalArgs (.type T) true args keywords) (fun a s₁ => wpAny M A (call (.type T) (first ++ a.pos) a.kw) Q E s₁) E s) :
    wpAny M A (callWith pos (.type T) first args keywords) Q E s := by
  unfold callWith
  refine wpAny_bind (wpAny_holding (wpAny_mono h (fun a s₁ h₁ => wpAny_bind (wpAny_standAt ?_)) fun _ _ x => x))
  simp only [hplain, hkw, Bool.or_false]
  refine wpAny_bind (wpAny_pure ?_)
  exact wpAny_bind (wpAny_mono h₁ (fun r s₂ hr => wpAny_bind (wpAny_holding (wpAny_point (wpAny_pure hr)))) fun _ _ x => x)
theorem callWith_typeKw {pos : Pos} {T : String} {e : Expr} {rest : List Expr} {kws : List Keyword} {Q : Value → Shared → Prop}
    (h : wpAny M A (spliced (backTo pos (starEach (e :: rest) env))) (fun vs s₁ => wpAny M A (evalAll ((backToKw pos (keywordEach kws env)).map (·.2)))
      (fun kvs s₂ => wpAny M A (call (.type T) vs (((backToKw pos (keywordEach kws env)).filterMap (·.1)).zip kvs)) Q E s₂) E s₁) E s)
    (he : backTo pos (starEach (e :: rest) env) = (false, eval e env) :: backTo pos (starEach rest env) := by rfl)
    (hplain : (backTo pos (starEach (e :: rest) env)).any (·.1) = false := by rfl)
    (hall : (backToKw pos (keywordEach kws env)).all (·.1.isSome) = true := by rfl)
    (hkw : (backToKw pos (keywordEach kws env)).any (·.1.isNone) = false := by rfl) :
    wpAny M A (callWith pos (.type T) [] (backTo pos (starEach (e :: rest) env)) (backToKw pos (keywordEach kws env))) Q E s := by
  refine callWith_typeKwB hplain hkw ?_
  rw [he] at h ⊢
  exact evalArgs_kwB hall h
end
end PyProof.Rows
namespace L2
open PySem PySem.Spec PyProof.Rows
/-- both lists have one length -/
def ItzS (K : PySem.W.Frag) (a b : Addr) : It :=
  ⟨fun i H => ∃ (xs ys : List V) (x y : V), SqL K H a xs ∧ SqL K H b ys ∧ xs[i]? = some x ∧ ys[i]? = some y,
    fun i H v H' => ∃ T x y, v = .ref T ∧ H T = none ∧ H' = upd H T (.tup [x, y]) ∧ (∀ xs, SqL K H a xs → xs[i]? = some x) ∧ ∀ ys, SqL K H b ys → ys[i]? = some y,
    fun i H => ∃ xs ys : List V, SqL K H a xs ∧ SqL K H b ys ∧ xs.length ≤ i ∧ ys.length ≤ i⟩
theorem turn_zipS {P : Program} {w : World} {K : PySem.W.Frag} {elts : List Expr} {kk : Nat} {tpos : Pos} {a b z TI TO i1 i2 : Addr} (D : ZipApart z TI TO i1 i2 a b) :
    Turn P w K (.Tuple elts kk tpos) (ItzS K a b) [z, TI, TO, i1, i2] z (fun i h => IsZipS h z TI TO .none ∧ IsPair h TI (.ref i1) (.ref i2) ∧ (∃ x y, IsPair h TO x y) ∧ h.IsListIter i1 a i ∧ h.IsListIter i2 b i) where
  mem := by simp
  obj := fun i h st c hc => by
    obtain ⟨hz, hTI, ⟨x, y, hTO⟩, ⟨o1, e1, _, d1⟩, ⟨o2, e2, _, d2⟩⟩ := st
    have e' : c = z ∨ c = TI ∨ c = TO ∨ c = i1 ∨ c = i2 := by simpa using hc
    rcases e' with q | q | q | q | q
    · rw [q]; exact ⟨_, hz, fun v q => nomatch q⟩
    · rw [q]; exact ⟨_, hTI, fun v q => nomatch q⟩
    · rw [q]; exact ⟨_, hTO, fun v q => nomatch q⟩
    · rw [q]; exact ⟨o1, e1, fun v q => by rw [d1] at q; cases q⟩
    · rw [q]; exact ⟨o2, e2, fun v q => by rw [d2] at q; cases q⟩
  keep := fun i h h' st k => by
    obtain ⟨hz, hTI, ⟨x, y, hTO⟩, h1, h2⟩ := st
    exact ⟨k z (by simp) _ hz, k TI (by simp) _ hTI, ⟨x, y, k TO (by simp) _ hTO⟩, h1.at fun o q => k i1 (by simp) o q, h2.at fun o q => k i2 (by simp) o q⟩
  item := by
    intro X hP hw hK hc i pins s σ H E I hf st hg
    subst hP hw hK
    obtain ⟨hz, hTI, ⟨x0, y0, hTO⟩, h1, h2⟩ := st
    obtain ⟨xs, ys, x, y, hqx, hqy, hx, hy⟩ := hg
    obtain ⟨its, rv, p, _⟩ := I.list hqx
    obtain ⟨its2, rv2, p2, _⟩ := I.list hqy
    obtain ⟨u, hu, ru⟩ := rv.get hx
    obtain ⟨u2, hu2, ru2⟩ := rv2.get hy
    have hzl : z < s.heap.objs.size := Heap.lt_size hz
    refine wpAny_pyNext_zipS_item D hz hTI hTO h1 h2 p.isList p2.isList (x := u) (y := u2) (by simpa using hu) (by simpa using hu2) fun h' z' TO' h1' h2' hT hsz hk => ?_
    refine ⟨_, rfl, wpAny_letOwnedTupleGo_zipS (s := { s with heap := h' }) z' fun h'' z'' sb => ?_⟩
    have hT2 : h''.get? s.heap.objs.size = some { cls := .type "tuple", data := .seq #[u, u2] } := (sb.2 _ (Nat.ne_of_gt hzl)).trans hT
    have new : ObjOk X.prog X.w (upd H s.heap.objs.size (.tup [x, y])) h'' s.heap.objs.size (.tup [x, y]) :=
      ⟨by show 2 ≤ sizeLine; decide, [u, u2], .cons ru (.cons ru2 .nil), ⟨_, hT2, rfl, _, rfl⟩⟩
    have I1 : Inv X pins σ (upd H s.heap.objs.size (.tup [x, y])) { s with heap := h'' } :=
      I.turnedNew (t' := s.toks) (ch := [z, TI, TO, i1, i2]) (fun c o hb q => (sb.2 c (fun q' => hb (by simp [q']))).trans (hk c o (fun q' => hb (by simp [q'])) (fun q' => hb (by simp [q'])) (fun q' => hb (by simp [q'])) (fun q' => hb (by simp [q'])) q)) hf (Nat.le_refl _) new
    refine ⟨.ref s.heap.objs.size, _, I1, rfl, ⟨_, x, y, rfl, I.hok.fresh (Nat.le_refl _), rfl, fun l hl => by rw [I.list_inj hl hqx]; exact hx, fun l hl => by rw [I.list_inj hl hqy]; exact hy⟩, ⟨z'', ?_, ⟨u, u2, ?_⟩, ?_, ?_⟩, fun c hcm => ?_⟩
    · exact (sb.2 _ D.TIz).trans (hk _ _ D.TIz D.TITO D.TIi1 D.TIi2 hTI)
    · exact (sb.2 _ D.TOz).trans TO'
    · exact h1'.at fun o q => (sb.2 _ D.i1z).trans q
    · exact h2'.at fun o q => (sb.2 _ D.i2z).trans q
    · have hlt : c < s.heap.objs.size := by
        have e' : c = z ∨ c = TI ∨ c = TO ∨ c = i1 ∨ c = i2 := by simpa using hcm
        rcases e' with q | q | q | q | q
        · rw [q]; exact hzl
        · rw [q]; exact Heap.lt_size hTI
        · rw [q]; exact Heap.lt_size hTO
        · rw [q]; obtain ⟨_, e1, _⟩ := h1; exact Heap.lt_size e1
        · rw [q]; obtain ⟨_, e2, _⟩ := h2; exact Heap.lt_size e2
      rw [upd_ne (Nat.ne_of_lt hlt)]
      exact (hf c hcm).1
  done := by
    intro X hP hw hK hc i pins s σ H E I hf st hg
    subst hP hw hK
    obtain ⟨hz, hTI, ⟨x0, y0, hTO⟩, h1, h2⟩ := st
    obtain ⟨xs, ys, hqx, hqy, q1, q2⟩ := hg
    obtain ⟨its, rv, p, _⟩ := I.list hqx
    obtain ⟨its2, rv2, p2, _⟩ := I.list hqy
    have l1 := rv.length
    have l2 := rv2.length
    exact wpAny_pyNext_zipS_end (I.ok.hd hc) D hz hTI hTO h1 h2 p.isList p2.isList (by simp; omega) (by simp; omega) fun h' hk => ⟨rfl, I.turnedL (t' := s.toks) (ch := [z, TI, TO, i1, i2]) (fun c o hb q =>
      hk c o (fun q' => hb (by simp [q'])) (fun q' => hb (by simp [q'])) (fun q' => hb (by simp [q'])) (fun q' => hb (by simp [q'])) q) hf⟩
  self := fun A i s Q E st h => wpAny_pyIter_zipS st.1 h
def iZipS (K : PySem.W.Frag) (ta : TA) : TI := fun σ H R => ta σ H fun vs H1 => ∃ a b xs ys, vs = [.ref a, .ref b] ∧ SqL K H1 a xs ∧ SqL K H1 b ys ∧ R (ItzS K a b) H1
theorem pi_zipS {X : Cx} {e e2 : Expr} {ta : TA} {p pos tpos kp cp : Pos} {ci : Nat} {elts : List Expr} {kk : Nat} (hg : Gl X "zip") (hm : X.mg "zip" = none) (ha : PA X [e, e2] ta)
    (he : backTo pos (starEach [e, e2] X.env) = (false, eval e X.env) :: backTo pos (starEach [e2] X.env) := by rfl) (hpl : (backTo pos (starEach [e, e2] X.env)).any (·.1) = false := by rfl) :
    PI X (.Tuple elts kk tpos) (.Call (.Name "zip" p) [e, e2] [⟨some "strict", .Constant (.bool true) ci cp, kp⟩] pos) (iZipS X.K ta) := by
  refine ⟨fun pins s σ H R I h => ?_⟩
  refine wpAny_Call_Name_kw (ld_blt I hg hm PyProof.Rows.boot_zip (PyProof.Rows.callWith_typeKw (thn (ha.run pos pins s σ H _ I h) fun us s1 ⟨vs, H1, I1, r1, q1⟩ => ?_) he hpl))
  refine PyProof.Rows.kws_cons (wpAny_pure (PyProof.Rows.kws_nil ?_))
  show wpAny _ _ (call (.type "zip") us kwStrict) _ _ _
  obtain ⟨a, b, xs, ys, ex, hqx, hqy, q⟩ := q1
  subst ex
  cases r1 with
  | cons r rr =>
    cases rr with
    | cons r' rr =>
      cases rr
      cases r
      cases r'
      obtain ⟨its, rv, p1, _⟩ := I1.list hqx
      obtain ⟨its2, rv2, p2, _⟩ := I1.list hqy
      have la : a < s1.heap.objs.size := p1.lt
      have lb : b < s1.heap.objs.size := p2.lt
      refine call_zipS_2 p1.isList p2.isList fun h' hz hTI hTO h1 h2 hsz hk => wpAny_pyIter_zipS hz ?_
      have I2 : Inv X pins σ H1 { s1 with heap := h' } := I1.kept (t' := s1.toks) hk
      refine ⟨s1.heap.objs.size + 4, [s1.heap.objs.size + 4, s1.heap.objs.size + 2, s1.heap.objs.size + 3, s1.heap.objs.size, s1.heap.objs.size + 1], _, _, H1, rfl, I2, turn_zipS (PySem.W.ktu_apart s1.heap.objs.size a b la lb), ⟨hz, hTI, ⟨_, _, hTO⟩, h1, h2⟩, fun c hcm => ?_, q⟩
      have e' : c = s1.heap.objs.size + 4 ∨ c = s1.heap.objs.size + 2 ∨ c = s1.heap.objs.size + 3 ∨ c = s1.heap.objs.size ∨ c = s1.heap.objs.size + 1 := by simpa using hcm
      have hle : s1.heap.objs.size ≤ c := by
        rcases e' with z | z | z | z | z
        · rw [z]; exact Nat.le_add_right _ _
        · rw [z]; exact Nat.le_add_right _ _
        · rw [z]; exact Nat.le_add_right _ _
        · rw [z]; exact Nat.le_refl _
        · rw [z]; exact Nat.le_add_right _ _
      exact I1.fpOk hle (I1.hok.fresh hle)
end L2
namespace Z
open PySem PySem.Spec PyProof.Rows L2
def SrcZS (K : PySem.W.Frag) (R : It → Hp → Prop) : List V → Hp → Prop := fun vs H1 => ∃ a b xs ys, vs = [.ref a, .ref b] ∧ SqL K H1 a xs ∧ SqL K H1 b ys ∧ R (ItzS K a b) H1
section
variable {X : Cx} {K : PySem.W.Frag} {H Ho : Hp} {σ : L2.St} {R : It → Hp → Prop} {ts : TA} {r0 rs : List (Addr × HO)} {α β : Type} [Py α] [Py β] {v u : V}
theorem zpi_zipS {e e2 : Expr} {ta : TA} {p pos tpos kp cp : Pos} {ci : Nat} {elts : List Expr} {kk : Nat} (hK : X.K = K) (hg : Gl X "zip") (hm : X.mg "zip" = none) (ha : PA X [e, e2] ta)
    (he : backTo pos (starEach [e, e2] X.env) = (false, eval e X.env) :: backTo pos (starEach [e2] X.env) := by rfl) (hpl : (backTo pos (starEach [e, e2] X.env)).any (·.1) = false := by rfl) :
    PI X (.Tuple elts kk tpos) (.Call (.Name "zip" p) [e, e2] [⟨some "strict", .Constant (.bool true) ci cp, kp⟩] pos) (iZipS K ta) := hK ▸ pi_zipS hg hm ha he hpl
theorem k_iZipS (k : ts σ H (SrcZS K R)) : iZipS K ts σ H R := k
theorem trn_zipS {xs : List α} {ys : List β} {a b : Addr} (d : LV K r0 Ho v xs) (ev : v = .ref a) (d' : LV K r0 Ho u ys) (eu : u = .ref b) (hl : xs.length = ys.length) : Trn K r0 (ItzS K a b) (xs.zip ys) Ho := by
  intro i rs' H' Ho' e z sub
  obtain ⟨a', vs, rfl, d, s⟩ := d
  obtain ⟨b', us, rfl, d', s'⟩ := d'
  cases ev
  cases eu
  have sa : SqL K H' a vs := src_stay s e z sub
  have sb : SqL K H' b us := src_stay s' e z sub
  refine ⟨fun p hp => ?_, fun hl2 => ⟨vs, us, sa, sb, ?_⟩⟩
  · obtain ⟨hx, hy⟩ := List.getElem?_zip_eq_some.mp hp
    obtain ⟨x, ex, dx⟩ := d.get hx
    obtain ⟨y, ey, dy⟩ := d'.get hy
    refine ⟨⟨vs, us, x, y, sa, sb, ex, ey⟩, fun t H'' yy => ?_⟩
    obtain ⟨T, x', y', rfl, hT, rfl, qx, qy⟩ := yy
    have e1 : x' = x := Option.some.inj ((qx _ sa).symm.trans ex)
    have e2 : y' = y := Option.some.inj ((qy _ sb).symm.trans ey)
    subst e1 e2
    have e3 : Same Ho' (upd Ho' T (.tup [x', y'])) := Same.new (z.free hT)
    exact ⟨_, e3, fun _ z => z.alloc hT, .tup upd_same (.cons (D.mo (D.mo dx e) e3) (.cons (D.mo (D.mo dy e) e3) .nil))⟩
  · rw [List.length_zip] at hl2
    rw [d.len, d'.len]
    omega
theorem k_srcZS {xs : List α} {ys : List β} (d : LV K r0 Ho v xs) (d' : LV K r0 Ho u ys) (hs : ∀ r ∈ r0, r ∈ rs) (z : Zs rs H Ho) (hl : xs.length = ys.length) (k : ∀ J, Trn K r0 J (xs.zip ys) Ho → R J H) : SrcZS K R [v, u] H := by
  obtain ⟨a', vs, rfl, dd, s⟩ := id d
  obtain ⟨b', us, rfl, dd', s'⟩ := id d'
  exact ⟨a', b', vs, us, rfl, src_stay s (Same.refl _) z hs, src_stay s' (Same.refl _) z hs, k _ (trn_zipS d rfl d' rfl hl)⟩
end
end Z

/-! # a comprehension over the keys of a dict of its own -/
namespace Z
open PySem PySem.Spec PyProof.Rows L2
section
variable {K : PySem.W.Frag} {H Ho H' Ho' : Hp} {α β γ : Type} [Py α] [Py β] {Φ : γ → Prop} {R rs : Grp} {v w u : V} {Q : VK} {σ : L2.St} {tt : TT} {te td t : TE} {g : TG} {vs : List Nat}
/-- a dict while its keys are gone through -/
def OF (K : PySem.W.Frag) (Ho : Hp) (v : V) (m : Dc (Int × Int) α) (g : Grp) : Prop := ∃ p kvs od, v = .ref p ∧ DM K Ho kvs m ∧ g = [(p, HO.frz od (DKey.ho (κ := Int × Int) kvs))]
theorem OF.mo {m : Dc (Int × Int) α} {g : Grp} (h : OF K Ho v m g) (e : Same Ho Ho') : OF K Ho' v m g := by
  obtain ⟨p, kvs, od, rfl, d, rfl⟩ := h
  exact ⟨p, kvs, od, rfl, d.mo e, rfl⟩
theorem k_lock {m : Dc (Int × Int) α} {g : Grp} (o : OD K Ho v m g) (z : Zs (g ++ R) H Ho)
    (k : ∀ g' H' Q', Zs (g' ++ R) H' Ho → OF K Ho v m g' → (∀ w R H2 Ho2, Zs (g' ++ R) H2 Ho2 → (∀ H3, Zs (g ++ R) H3 Ho2 → Q w H3) → Q' w H2) → t σ H' Q') : tLockE t σ H Q := by
  obtain ⟨p, kvs, rfl, d, rfl⟩ := o
  refine ⟨p, _, z.head, trivial, fun od => ?_⟩
  refine k [(p, HO.frz od (DKey.ho (κ := Int × Int) kvs))] _ _ z.put ⟨p, kvs, od, rfl, d, rfl⟩ fun w R H2 Ho2 z2 q => ⟨z2.head, q _ z2.put⟩
def SrcK (R : It → Hp → Prop) (x : V) (H : Hp) : Prop := ∃ d o, x = .ref d ∧ ((∃ kvs, H d = some (.frz o (.dK kvs)) ∧ R (Itk d o kvs) H) ∨ ∃ kvs, H d = some (.frz o (.dT kvs)) ∧ R (Itkt d o kvs) H)
theorem k_iKeys {R : It → Hp → Prop} (k : td σ H fun x H1 => SrcK R x H1) : iKeys td σ H R := k
/-- the turns over the keys -/
def KeyT (J : It) (m : Dc (Int × Int) α) (g : Grp) : Prop := ∃ p kvs od, J = Itkt p od kvs ∧ kvs.map (·.1) = m.map (fun p => DKey.key p.1) ∧ g = [(p, HO.frz od (DKey.ho (κ := Int × Int) kvs))]
theorem k_srcK {R : It → Hp → Prop} {m : Dc (Int × Int) α} {g : Grp} (o : OF K Ho v m g) (hs : ∀ r ∈ g, r ∈ rs) (z : Zs rs H Ho) (k : ∀ J, KeyT J m g → R J H) : SrcK R v H := by
  obtain ⟨p, kvs, od, rfl, d, rfl⟩ := o
  exact ⟨p, od, rfl, .inr ⟨kvs, (z.rt _ (hs _ List.mem_cons_self)).1, k _ ⟨p, kvs, od, rfl, d.1, rfl⟩⟩⟩
theorem y_lcK {J : It} {m : Dc (Int × Int) α} {g0 : Grp} {ct : Int × Int → W Bool} {cf : Int × Int → W β} {f : List β → W γ} (z : Zs rs H Ho) (hr : ∀ r ∈ g0, r ∈ rs) (T : KeyT J m g0) (hw : (W.bind (compG (m.map (·.1)) ct cf) f).run Φ)
    (hx : ∀ (r : Addr × HO) a x H' Ho' (N : VK) (N' : Hp → Prop), Same Ho Ho' → Zs (r :: rs) H' Ho' → Z.D K H' x a →
      (W.bind (ct a) fun b => W.ite b (cf a) ⟨fun Ψ => ∀ H'' Ho'', Same Ho' Ho'' → Zs (r :: rs) H'' Ho'' → N' H'', fun _ _ _ q => q⟩).run (fun y => ∀ w H'' Ho'', Same Ho' Ho'' → Zs (r :: rs) H'' Ho'' → Z.D K Ho'' w y → N w H'') →
      g x (wipe σ vs) H' fun σ2 H2 => wipe σ2 vs = wipe σ vs ∧ tt σ2 H2 fun b H3 => if b = true then te σ2 H3 N else N' H3)
    (k : ∀ ys H' Ho', Same Ho Ho' → (f ys).run Φ → ∀ p ws, Zs ((p, .lst ws) :: rs) H' Ho' → DL K Ho' ws ys → Q (.ref p) H') : LcG g tt te vs σ Q J H := by
  intro Dn hD
  obtain ⟨p, kvs, od, rfl, hkv, rfl⟩ := T
  have hmem := hr _ List.mem_cons_self
  obtain ⟨hsz, hw⟩ := hw
  have hlen : kvs.length = m.length := by
    have := congrArg List.length hkv
    simpa using this
  generalize hxs : m.map (·.1) = xs at hsz hw
  have hlx : xs.length = kvs.length := by rw [← hxs, hlen, List.length_map]
  refine ⟨fun i m H => m = xs.length - i ∧ i ≤ xs.length ∧ ∃ (Ho' : Hp) (acc : List β) (acs : List V), Same Ho Ho' ∧ Zs ((Dn, .lst acs) :: rs) H Ho' ∧ DL K Ho' acs acc ∧ acs.length ≤ i ∧ (comp (xs.drop i) acc ct cf).run fun ys => (f ys).run Φ,
    ⟨xs.length, by simp, Nat.zero_le _, Ho, [], [], Same.refl _, z.root hD, .nil, Nat.le_refl _, hw⟩, ?_⟩
  rintro i mm H ⟨rfl, hi, Ho', acc, acs, e', z', da, la, hw⟩
  have hfr : H p = some (.frz od (.dT kvs)) := (z'.rt _ (List.mem_cons_of_mem _ hmem)).1
  by_cases hlt : i < xs.length
  · refine .inr ?_
    have hxi := List.getElem?_eq_getElem hlt
    refine ⟨⟨hfr, by omega⟩, fun H' => ∃ (Ho' : Hp) (acc : List β) (acs : List V), Same Ho Ho' ∧ Zs ((Dn, .lst acs) :: rs) H' Ho' ∧ DL K Ho' acs acc ∧ acs.length ≤ i + 1 ∧ (comp (xs.drop (i + 1)) acc ct cf).run fun ys => (f ys).run Φ, fun H' hN => ⟨xs.length - (i + 1), by omega, rfl, hlt, hN⟩, fun x H' y => ?_⟩
    obtain ⟨rfl, kk, vv, q, hk1, rfl, hq⟩ := y
    have hkey : kk = DKey.key (xs[i]) := by
      have h1 : (kvs.map (·.1))[i]? = some kk := by rw [List.getElem?_map, hk1]; rfl
      have h2 : (m.map (fun p => DKey.key p.1))[i]? = some (DKey.key xs[i]) := by
        have : (m.map (·.1))[i]? = some xs[i] := by rw [hxs]; exact hxi
        rw [List.getElem?_map] at this ⊢
        cases em : m[i]? with
        | none => rw [em] at this; cases this
        | some p => rw [em] at this; rw [← Option.some.inj this]; rfl
      rw [hkv, h2] at h1
      exact (Option.some.inj h1).symm
    have dx : Z.D K H' (.ref q) xs[i] := by
      rw [hkey] at hq
      exact .tup hq (.cons (.int _) (.cons (.int _) .nil))
    rw [drop_cons hxi] at hw
    refine hx (Dn, .lst acs) _ _ H' Ho' _ _ e' z' dx ?_
    have hw : (ct xs[i]).run fun b => (W.ite b (W.bind (cf xs[i]) fun y => comp (xs.drop (i + 1)) (acc ++ [y]) ct cf) (comp (xs.drop (i + 1)) acc ct cf)).run fun ys => (f ys).run Φ := hw
    show (ct xs[i]).run _
    refine W.mono _ _ _ (fun b hb => ?_) hw
    refine ⟨fun e => ?_, fun e H'' Ho'' e3 z3 => ?_⟩
    · refine W.mono _ _ _ (fun y hy w H'' Ho'' e3 z3 dw => ?_) (hb.1 e)
      refine ⟨acs, z3.head, by omega, Ho'', acc ++ [y], acs ++ [w], e'.trans e3, z3.put, (DL.mo da e3).push dw, ?_, hy⟩
      rw [List.length_append]
      exact Nat.succ_le_succ la
    · exact ⟨Ho'', acc, acs, e'.trans e3, z3, DL.mo da e3, Nat.le_succ_of_le la, hb.2 e⟩
  · have e : i = xs.length := by omega
    subst e
    refine .inl ⟨⟨hfr, by omega⟩, ?_⟩
    rw [List.drop_length] at hw
    exact k acc H Ho' e' hw Dn acs z' da
theorem g_dgetF {m : Dc (Int × Int) α} {k : Int × Int} {f : α → W γ} {g : Grp} (o : OF K Ho v m g) (hs : ∀ r ∈ g, r ∈ R) (z : Zs R H Ho) (dk : Z.D K H w k) (hw : (W.bind (W.opt (valM m k)) f).run Φ) (kk : ∀ t u, Z.D K Ho u t → (f t).run Φ → Q u H) : GGet Q v w H := by
  obtain ⟨p, kvs, od, rfl, d, rfl⟩ := o
  obtain ⟨a, ea, hw⟩ := hw
  obtain ⟨x, ex, dx⟩ := (d.val k).2 a ea
  have e := (z.rt _ (hs _ List.mem_cons_self)).1
  refine ⟨p, x, rfl, ?_, kk a x dx hw⟩
  cases dk with
  | tup hs ha =>
    cases ha with
    | cons h1 h2 =>
      cases h2 with
      | cons h3 h4 =>
        cases h4
        rw [d_int h1, d_int h3] at hs
        refine Or.inr ⟨kvs, [.inl k.1, .inl k.2], _, .inr ⟨od, e⟩, rfl, hs, ?_⟩
        rw [← ex]; rfl
end
end Z

/-! # the items of a dict whose keys are tuples, gone through -/
namespace L2
open PySem PySem.W PySem.Calls PyProof.Rows PyProof.V PySem.Spec
section
variable {X : Cx} {pins : List (Addr × Obj)} {σ : St} {H : Hp} {s : Shared} {d : Addr} {o : Obj} {P : Program} {w : World} {K : Frag} {es : Array DictEntry} {ep : Nat}
theorem Inv.frzT2 {kvs : List (List Key × V)} (I : Inv X pins σ H s) (h : H d = some (.frz o (.dT kvs))) :
    (d == sysModules) = false ∧ s.heap.get? d = some o ∧ o.ExactDict ∧ ∃ (es : Array DictEntry) (ep : Nat), o.data = .dict es ep ∧ es.size = kvs.length ∧
      ∀ (i : Nat) (k : List Key) (v : V), kvs[i]? = some (k, v) → ∃ (en : DictEntry) (q : Addr), es[i]? = some en ∧ en.key = .ref q ∧ H q = some (.tup (k.map kV)) ∧ RelV v en.val := by
  obtain ⟨hd, z, hs, xs, pr, o', es, ep, ho, hx, hdt, he, _⟩ := I.hok d _ h
  rw [hd] at ho
  cases ho
  refine ⟨hs, hd, hx, es, ep, hdt, ?_, fun i k v e => ?_⟩
  · have l1 : es.size = xs.length := size_of_entries he
    have l2 : kvs.length = xs.length := Paired.length pr
    omega
  · obtain ⟨b, hb, e1, e2, e3⟩ := paired_get pr e
    have q := entry_at he i
    rw [hb] at q
    exact ⟨_, b.2.1, q, rfl, e2, e3⟩
/-- the pairs of key and value, the key its own tuple, each in a new pair -/
def Itit (d : Addr) (o : Obj) (kvs : List (List Key × V)) : It :=
  ⟨fun i H => H d = some (.frz o (.dT kvs)) ∧ i < kvs.length, fun i H x H' => ∃ T k v q, kvs[i]? = some (k, v) ∧ x = .ref T ∧ H T = none ∧ H q = some (.tup (k.map kV)) ∧ H' = upd H T (.tup [.ref q, v]), fun i H => H d = some (.frz o (.dT kvs)) ∧ kvs.length ≤ i⟩
theorem turn_itemsT {kvs : List (List Key × V)} {elts : List Expr} {kk : Nat} {tpos : Pos} (it : Addr) (hod : o.data = .dict es ep) :
    Turn P w K (.Tuple elts kk tpos) (Itit d o kvs) [it] it (fun i h => ∃ ok ov, IsItemIter h it d i kvs.length ep ok ov) where
  mem := by simp
  obj := fun i h st b hb => by
    have e : b = it := by simpa using hb
    subst e
    obtain ⟨ok, ov, e⟩ := st
    exact ⟨_, e, fun v z => nomatch z⟩
  keep := fun i h h' st k => let ⟨ok, ov, e⟩ := st; ⟨ok, ov, k it (by simp) _ e⟩
  item := by
    intro X hP hw hK hc i pins s σ H E I hf st hg
    subst hP hw hK
    obtain ⟨hd, hi⟩ := hg
    obtain ⟨hs, hgd, hx, es', ep', hdt, hsz, ent⟩ := I.frzT2 hd
    obtain ⟨rfl, rfl⟩ := dict_ep hod hdt
    obtain ⟨⟨k, v⟩, hkv⟩ : ∃ p, kvs[i]? = some p := ⟨kvs[i], List.getElem?_eq_getElem hi⟩
    obtain ⟨en, q, hen, hkey, hq, rv⟩ := ent i k v hkv
    obtain ⟨ok, ov, he⟩ := st
    rw [← hsz] at he
    have hlt : it < s.heap.objs.size := Heap.lt_size he
    have hies : i < es'.size := by omega
    have een : es'[i] = en := by
      rw [Array.getElem?_eq_getElem hies] at hen
      exact Option.some.inj hen
    refine DT.nextI he ⟨o, hgd, hx, hdt⟩ hies fun h' ho hT hz hk => ?_
    refine ⟨_, rfl, wpAny_letOwnedTupleGo_items (s := { s with heap := h' }) ho fun h'' he' sb => ?_⟩
    have hT2 : h''.get? s.heap.objs.size = some { cls := .type "tuple", data := .seq #[es'[i].key, es'[i].val] } := (sb.2 _ (Nat.ne_of_gt hlt)).trans hT
    rw [een, hkey] at hT2
    have new : ObjOk X.prog X.w (upd H s.heap.objs.size (.tup [.ref q, v])) h'' s.heap.objs.size (.tup [.ref q, v]) :=
      ⟨by show 2 ≤ sizeLine; decide, [.ref q, en.val], .cons rfl (.cons rv .nil), ⟨_, hT2, rfl, _, rfl⟩⟩
    have I1 : Inv X pins σ (upd H s.heap.objs.size (.tup [.ref q, v])) { s with heap := h'' } :=
      I.turnedNew (t' := s.toks) (ch := [it]) (fun b ob hb e => (sb.2 b (by simpa using hb)).trans (hk b ob (by simpa using hb) e)) hf (Nat.le_refl _) new
    refine ⟨.ref s.heap.objs.size, _, I1, rfl, ⟨_, k, v, q, hkv, rfl, I.hok.fresh (Nat.le_refl _), hq, rfl⟩, ⟨_, _, by rw [← hsz]; exact he'⟩, fun b hb => ?_⟩
    have e : b = it := by simpa using hb
    rw [e, upd_ne (Nat.ne_of_lt hlt)]
    exact (hf it (by simp)).1
  done := by
    intro X hP hw hK hc i pins s σ H E I hf st hg
    subst hP hw hK
    obtain ⟨hd, hi⟩ := hg
    obtain ⟨f0, f1, f2, f3, f4, f5⟩ := hf it (by simp)
    obtain ⟨hs, hgd, hx, es', ep', hdt, hsz, ent⟩ := I.frzT2 hd
    obtain ⟨rfl, rfl⟩ := dict_ep hod hdt
    obtain ⟨ok, ov, he⟩ := st
    rw [← hsz] at he
    exact DT.endI (I.ok.hd hc) he ⟨o, hgd, hx, hdt⟩ (by omega) fun h' eb => ⟨rfl, I.turned (t' := s.toks) (fun b ob hb e => eb b ob hb e) f0 f1 f3 f4 f5⟩
  self := fun A i s Q E st h => let ⟨_, _, e⟩ := st; PySem.W.kcp_self e h
def iItemsT (td : TE) : TI := fun σ H R => td σ H fun x H1 => ∃ d o kvs, x = .ref d ∧ H1 d = some (.frz o (.dT kvs)) ∧ R (Itit d o kvs) H1
theorem pi_itemsT {e : Expr} {td : TE} {apos cpos : Pos} {elts : List Expr} {kk : Nat} {tpos : Pos} (he : PE X e td) (hbase : attributeBase e "items" X.env (eval e X.env) = eval e X.env := by rfl) (hline : (apos.endLine == cpos.line) = true := by rfl) :
    PI X (.Tuple elts kk tpos) (.Call (.Attribute e "items" apos) [] [] cpos) (iItemsT td) := by
  refine ⟨fun pins s σ H R I h => ?_⟩
  refine wpAny_Call_method (T := "dict") (id := "dict.items") hbase rfl hline F.plainAttrs_dict F.slot_dict_items F.type_dict_items (thn (he.run pins s σ H _ I h) fun u s1 ⟨x, H1, I1, rx, d, o, kvs, ex, hd, q⟩ => ?_)
  subst ex
  obtain rfl : u = Value.ref d := rx
  obtain ⟨hs, hgd, hx, es, ep, hdt, hsz, ent⟩ := I1.frzT2 hd
  have raw : DT.Raw s1.heap d es ep := ⟨o, hgd, hx, hdt⟩
  refine ⟨raw.typeIs, ?_, ?_⟩
  · intro a e
    cases e
    exact ⟨o, hgd, hx.2.1⟩
  have I2 : Inv X pins σ H1 { s1 with heap := s1.heap.push { cls := .type "dict_items", data := .fields #[.ref d] } } := I1.kept (t' := s1.toks) fun b ob q => Heap.get?_push_of_some _ q
  have fin : wpAny (model X.prog X.w) X.A (pyIter (.ref s1.heap.objs.size)) (PIE X pins σ (.Tuple elts kk tpos) R) X.xe { s1 with heap := s1.heap.push { cls := .type "dict_items", data := .fields #[.ref d] } } := by
    refine DT.iterI (d := d) ⟨_, Heap.get?_push_size _ rfl, rfl, rfl⟩ (raw.push _) (pi_one (tk := s1.toks) I2 _ (turn_itemsT _ hdt) ⟨.none, .none, ?_⟩ q)
    rw [← hsz]
    exact Heap.get?_push_size _ rfl
  show wpAny _ _ (callWith cpos (.builtin "dict.items") [.ref d] [] []) _ X.xe s1
  exact method_meetsIn F.slot_dict_items F.entry_dict_items rfl (PySem.evalArgs_none ⟨rfl, raw.typeIs, F.args_dict_items_1 _, _, DT.meetsItems (es := es) (ep := ep) hs, raw, fin⟩)
end
end L2

/-! # dicts whose keys are tuples of ints of any length; loops over their items; tuple(list) -/
namespace Z
open PySem PySem.Spec PyProof.Rows L2
section
variable {K : PySem.W.Frag} {H Ho H' Ho' : Hp} {R rs g g' : Grp} {v w u : V} {Q : VK} {σ : L2.St} {α γ : Type} [Py α] {Φ : γ → Prop}
theorem tp_at {x : Tp Int} (d : Z.D K Ho w x) : ∃ p, w = .ref p ∧ Ho p = some (.tup (x.l.map V.int)) := by
  have d : Dq K Ho w (.tuple (x.l.map Py.toPy)) := d
  cases d with
  | tup hs ha =>
    have e := dl_ints (xs := x.l) ha
    rw [e] at hs
    exact ⟨_, rfl, hs⟩
theorem at_tp {x : Tp Int} {p : Addr} (h : Ho p = some (.tup (x.l.map V.int))) : Z.D K Ho (.ref p) x := by
  show Dq K Ho (.ref p) (.tuple (x.l.map Py.toPy))
  exact .tup h ints_dl
theorem keys_int (xs : List Int) : (xs.map (Sum.inl : Int → L2.Key)).map kV = xs.map V.int := by rw [List.map_map]; rfl
instance : DKey (Tp Int) where
  kt := List L2.Key
  dec := inferInstance
  key p := p.l.map Sum.inl
  inj h := by
    rename_i a b
    obtain ⟨a⟩ := a
    obtain ⟨b⟩ := b
    have h : a.map (Sum.inl : Int → L2.Key) = b.map Sum.inl := h
    congr 1
    exact (List.map_inj_right fun x y e => by cases e; rfl).mp h
  ho := .dT
  get e s d := by
    obtain ⟨p, rfl, hp⟩ := tp_at d
    rw [← keys_int] at hp
    exact DGet.t e (s _ _ hp)
  put e s d h := by
    obtain ⟨p, rfl, hp⟩ := tp_at d
    rw [← keys_int] at hp
    exact DPut.t e (s _ _ hp) h
  isd e := .inr ⟨_, .inl e⟩
theorem g_dnewTp (z : Zs R H Ho) (k : ∀ H' v g, Zs (g ++ R) H' Ho → OD K Ho v ([] : Dc (Tp Int) α) g → Q v H') : tDNewT σ H Q := fun p hp => k _ _ _ (z.root hp) ⟨p, [], rfl, ⟨rfl, .nil⟩, rfl⟩
theorem g_disp1P {p : Addr} {k : Tp Int} {a : α} (z : Zs ([(p, HO.dT [])] ++ R) H Ho) (dk : Z.D K Ho v k) (dv : Z.D K Ho w a) (kk : ∀ g H', Zs (g ++ R) H' Ho → OD K Ho (.ref p) ([(k, a)] : Dc (Tp Int) α) g → Q (.ref p) H') : Dsp1T Q p v w H := by
  obtain ⟨q, rfl, hq⟩ := tp_at dk
  rw [← keys_int] at hq
  exact ⟨q, k.l.map Sum.inl, rfl, z.le _ _ hq, z.head, kk _ _ z.put ⟨p, [(_, w)], rfl, ⟨rfl, .cons dv .nil⟩, rfl⟩⟩
/-- a dict while its items are gone through -/
def OG (K : PySem.W.Frag) (Ho : Hp) (v : V) (m : Dc (Tp Int) α) (g g' : Grp) : Prop := ∃ p kvs od, v = .ref p ∧ DM K Ho kvs m ∧ g = [(p, DKey.ho (κ := Tp Int) kvs)] ∧ g' = [(p, HO.frz od (DKey.ho (κ := Tp Int) kvs))]
theorem OG.mo {m : Dc (Tp Int) α} (h : OG K Ho v m g g') (e : Same Ho Ho') : OG K Ho' v m g g' := by
  obtain ⟨p, kvs, od, rfl, d, e1, e2⟩ := h
  exact ⟨p, kvs, od, rfl, d.mo e, e1, e2⟩
theorem OG.od {m : Dc (Tp Int) α} (h : OG K Ho v m g g') : OD K Ho v m g := by
  obtain ⟨p, kvs, od, rfl, d, e1, e2⟩ := h
  exact ⟨p, kvs, rfl, d, e1⟩
theorem k_lockS {t u : TS} {D : Ends} {m : Dc (Tp Int) α} (o : OD K Ho v m g) (z : Zs (g ++ R) H Ho)
    (k : ∀ g' H' u1 D', Zs (g' ++ R) H' Ho → OG K Ho v m g g' → (∀ σ2 R H2 Ho2, Zs (g' ++ R) H2 Ho2 → (∀ H3, Zs (g ++ R) H3 Ho2 → u D σ2 H3) → u1 D' σ2 H2) → tSeq t u1 D' σ H') : tSeq (tLock t) u D σ H := by
  obtain ⟨p, kvs, rfl, d, rfl⟩ := o
  refine ⟨p, _, z.head, trivial, fun od => ?_⟩
  let F : HO := HO.frz od (DKey.ho (κ := Tp Int) kvs)
  let U : HO := DKey.ho (κ := Tp Int) kvs
  exact k [(p, F)] _ (fun D σ H => D.nx σ H) ⟨fun σ' H' => H' p = some F ∧ u D σ' (upd H' p U), fun v H' => H' p = some F ∧ D.rt v (upd H' p U), fun σ' H' => H' p = some F ∧ D.bk σ' (upd H' p U), fun σ' H' => H' p = some F ∧ D.ct σ' (upd H' p U)⟩ z.put ⟨p, kvs, od, rfl, d, rfl, rfl⟩ fun σ2 R H2 Ho2 z2 q => ⟨z2.head, q _ (z2.put (hn := DKey.nt _))⟩
def SrcIt (R : It → Hp → Prop) (x : V) (H : Hp) : Prop := ∃ d o kvs, x = .ref d ∧ H d = some (.frz o (.dT kvs)) ∧ R (Itit d o kvs) H
theorem k_iItems {td : TE} {R : It → Hp → Prop} (k : td σ H fun x H1 => SrcIt R x H1) : iItemsT td σ H R := k
theorem k_srcIt {R : It → Hp → Prop} {m : Dc (Tp Int) α} (o : OG K Ho v m g g') (hs : ∀ r ∈ g', r ∈ rs) (z : Zs rs H Ho) (k : ∀ J, Trn K g' J (m : List (Tp Int × α)) Ho → R J H) : SrcIt R v H := by
  obtain ⟨p, kvs, od, rfl, d, rfl, rfl⟩ := o
  refine ⟨p, od, kvs, rfl, (z.rt _ (hs _ List.mem_cons_self)).1, k _ ?_⟩
  intro i rs' H' Ho' e z' sub
  have hfr : H' p = some (.frz od (.dT kvs)) := (z'.rt _ (sub _ List.mem_cons_self)).1
  have hlen := d.len
  refine ⟨fun a ha => ?_, fun hl => ⟨hfr, by omega⟩⟩
  have hi : i < m.length := (List.getElem?_eq_some_iff.mp ha).1
  refine ⟨⟨hfr, by omega⟩, fun x H'' y => ?_⟩
  obtain ⟨T, kk, vv, q, hk, rfl, hT, hq, rfl⟩ := y
  have hkey : kk = (DKey.key a.1 : List L2.Key) := by
    have h1 : (kvs.map (·.1))[i]? = some kk := by rw [List.getElem?_map, hk]; rfl
    rw [d.1, List.getElem?_map, ha] at h1
    exact (Option.some.inj h1).symm
  have hq' : H' q = some (.tup (a.1.l.map V.int)) := by
    rw [hq, hkey]
    exact congrArg (fun l => some (HO.tup l)) (keys_int a.1.l)
  have dv : Z.D K Ho vv a.2 := by
    obtain ⟨y, ey, dy⟩ := d.2.get (show (m.map (·.2))[i]? = some a.2 by rw [List.getElem?_map, ha]; rfl)
    rw [List.getElem?_map, hk] at ey
    cases ey
    exact dy
  have nq : q ≠ T := fun e => by subst e; rw [hT] at hq; cases hq
  have hTo : Ho' T = none := z'.free hT
  -- q stands for good
  have s1 : Same Ho' (upd Ho' q (.tup (a.1.l.map V.int))) := fun b o' eb => by
    by_cases c : b = q
    · subst c
      have := z'.le _ _ eb
      rw [hq'] at this
      cases this
      exact upd_same
    · rw [upd_ne c]; exact eb
  have s2 : Same (upd Ho' q (.tup (a.1.l.map V.int))) (upd (upd Ho' q (.tup (a.1.l.map V.int))) T (.tup [.ref q, vv])) := Same.new (by rw [upd_ne nq.symm]; exact hTo)
  refine ⟨upd (upd Ho' q (.tup (a.1.l.map V.int))) T (.tup [.ref q, vv]), s1.trans s2, fun rs2 z2 => ⟨fun b o' eb => ?_, fun r hr => ?_, z2.nd, z2.nt⟩, ?_⟩
  · by_cases c : b = T
    · subst c
      rw [upd_same] at eb ⊢
      exact eb
    · rw [upd_ne c] at eb ⊢
      by_cases c2 : b = q
      · subst c2
        rw [upd_same] at eb
        rw [← eb]
        exact hq'
      · rw [upd_ne c2] at eb
        exact z2.le _ _ eb
  · obtain ⟨h1, h2⟩ := z2.rt r hr
    have n1 : r.1 ≠ T := fun e => by rw [e, hT] at h1; cases h1
    have n2 : r.1 ≠ q := fun e => by
      rw [e, hq'] at h1
      have := z2.nt r hr
      rw [← Option.some.inj h1] at this
      exact this
    rw [upd_ne n1, upd_ne n1, upd_ne n2]
    exact ⟨h1, h2⟩
  · obtain ⟨a1, a2⟩ := a
    have hq2 : upd (upd Ho' q (.tup (a1.l.map V.int))) T (.tup [.ref q, vv]) q = some (.tup (a1.l.map V.int)) := by rw [upd_ne nq]; exact upd_same
    exact .tup upd_same (.cons (at_tp hq2) (.cons (D.mo dv ((e.trans s1).trans s2)) .nil))
/-- tuple(list) -/
def rTupL (K : PySem.W.Frag) : List V → Hp → VK → Prop := fun xs H Q => ∃ p ys, xs = [.ref p] ∧ ((SqL K H p ys ∧ ∀ l, H l = none → Q (.ref l) (upd H l (.tup ys))) ∨ (SqT K H p ys ∧ Q (.ref p) H))
theorem ztupL {X : Cx} (hK : X.K = K) : CallR X (.type "tuple") (rTupL K) := hK ▸ call_tuple_of
theorem y_tupL {xs : List α} (d : LV K R Ho v xs) (z : Zs R H Ho) (k : ∀ p H' Ho', Same Ho Ho' → Zs R H' Ho' → Z.D K Ho' (.ref p) (⟨xs⟩ : Tp α) → Q (.ref p) H') : rTupL K [v] H Q := by
  obtain ⟨p, vs, rfl, d, s⟩ := LV.rd d z
  refine ⟨p, vs, rfl, .inl ⟨s, fun l hl => k l _ _ (Same.new (z.free hl)) (z.alloc hl) ?_⟩⟩
  exact .tup upd_same (DL.mo d (Same.new (z.free hl)))
theorem zlenDT {X : Cx} : CallR X (.builtin "len") rLenT := call_len_dT
theorem y_lenDT {m : Dc (Tp Int) α} (o : BD K R Ho v m) (z : Zs R H Ho) (k : Q (.int (m.length : Int)) H) : rLenT [v] H Q := by
  obtain ⟨g, ⟨p, kvs, rfl, d, rfl⟩, hg⟩ := o
  have hp : H p = some (.dT kvs) := (z.rt _ (hg _ List.mem_cons_self)).1
  refine ⟨p, kvs, rfl, hp, ?_⟩
  rw [d.len]
  exact k
end
end Z

/-! # zip(text, xs, strict=True), xs a list or a tuple of the text's length -/
namespace PySem
open Sem (wp)
structure DrX (prog : Program) (w : World) (A : Around) (it : Addr) (dep : List Addr) (val : Nat → Option (Value → Prop)) (St : Nat → Heap → Prop) : Prop where
  mem : it ∈ dep
  frame : ∀ i h h', St i h → (∀ b ∈ dep, ∀ o, h.get? b = some o → h'.get? b = some o) → St i h'
  item : ∀ i (s : Shared) (Q : Option Value → Shared → Prop) (E : Value → Shared → Prop) (Pv : Value → Prop), val i = some Pv → St i s.heap →
    (∀ x h' tk, Pv x → St (i + 1) h' → Heap.SameBut it s.heap h' → Q (some x) { s with heap := h', toks := tk }) → wpAny (model prog w) A (Builtin.SmallTypes.nextOrEnd (.ref it)) Q E s
  done : ∀ i (s : Shared) (Q : Option Value → Shared → Prop) (E : Value → Shared → Prop), val i = none → St i s.heap →
    (∀ h', Heap.ExtBut it s.heap h' → Q none { s with heap := h' }) → wpAny (model prog w) A (Builtin.SmallTypes.nextOrEnd (.ref it)) Q E s
section
variable {prog : Program} {w : World} {A : Around} {E : Value → Shared → Prop} {s : Shared}
theorem DrX.over {it : Addr} {dep : List Addr} {val : Nat → Option (Value → Prop)} {St : Nat → Heap → Prop} (D : DrX prog w A it dep val St) {i : Nat} {h h' : Heap} {x : Addr} (st : St i h) (hs : Heap.SameBut x h h') (hx : x ∉ dep) : St i h' :=
  D.frame _ _ _ st fun b hb o e => hs.extBut _ _ (fun q => hx (by rw [← q]; exact hb)) e
theorem drx_end {it : Addr} {Q : Option Value → Shared → Prop} (h : ∀ E' : Value → Shared → Prop, (∀ h' e, Heap.ExtBut it s.heap h' → (∃ o, h'.get? e = some o ∧ o.cls = .type "StopIteration") → E' (.ref e) { s with heap := h' }) → wpAny (model prog w) A (Builtin.SmallTypes.nextOf (.ref it)) (fun _ _ => False) E' s)
    (hQ : ∀ h', Heap.ExtBut it s.heap h' → Q none { s with heap := h' }) : wpAny (model prog w) A (Builtin.SmallTypes.nextOrEnd (.ref it)) Q E s := by
  unfold Builtin.SmallTypes.nextOrEnd
  refine wpAny_bind (wpAny_attempt (wpAny_mono (h _ fun h' e hb he => ?_) (fun _ _ z => z.elim) fun _ _ z => z))
  obtain ⟨o, ho, hc⟩ := he
  refine wpAny_bind (wpAny_isInstance (T := "StopIteration") (b := true) ⟨o, ho, hc⟩ isSubtype_stop ?_)
  exact wpAny_pure (hQ h' hb)
theorem drx_list (hh : A.handled = none) {it l : Addr} (hne : l ≠ it) (items : Array Value) : DrX prog w A it [it, l] (fun i => items[i]?.map fun v x => x = v) (fun i h => h.IsListIter it l i ∧ h.IsList l items) where
  mem := by simp
  frame := fun _ _ _ st hk => ⟨st.1.at fun o e => hk it (by simp) o e, st.2.at fun o e => hk l (by simp) o e⟩
  item := fun i s Q E Pv hv st hQ => by
    cases e : items[i]? with
    | none => rw [e] at hv; cases hv
    | some y =>
      rw [e] at hv
      cases hv
      exact wpAny_nextOrEnd_item st.1 st.2 e fun h' a b => hQ y h' s.toks rfl ⟨a, st.2.extBut b.extBut hne⟩ b
  done := fun i s Q E hv st hQ => wpAny_nextOrEnd_end hh st.1 st.2 (Option.map_eq_none_iff.mp hv) hQ
theorem drx_tup (hh : A.handled = none) {it l : Addr} (hne : l ≠ it) (items : Array Value) : DrX prog w A it [it, l] (fun i => items[i]?.map fun v x => x = v) (fun i h => h.IsTupleIter it l i ∧ h.IsTuple l items) where
  mem := by simp
  frame := fun _ _ _ st hk => ⟨st.1.at fun o e => hk it (by simp) o e, st.2.at fun o e => hk l (by simp) o e⟩
  item := fun i s Q E Pv hv st hQ => by
    cases e : items[i]? with
    | none => rw [e] at hv; cases hv
    | some y =>
      rw [e] at hv
      cases hv
      unfold Builtin.SmallTypes.nextOrEnd
      exact wpAny_bind (wpAny_attempt (wpAny_nextOf_tuple_item st.1 st.2 e fun h' a b => wpAny_pure (hQ y h' s.toks rfl ⟨a, st.2.extBut b.extBut hne⟩ b)))
  done := fun i s Q E hv st hQ => drx_end (fun E' h => wpAny_nextOf_tuple_end hh st.1 st.2 (Option.map_eq_none_iff.mp hv) h) hQ
theorem drx_text (hh : A.handled = none) {it : Addr} {ty : String} (hty : ty = "str_ascii_iterator" ∨ ty = "str_iterator") (x : Str) (t : Tok) : DrX prog w A it [it] (fun i => x.cps[i]?.map fun c v => ∃ u, v = .str ⟨#[c]⟩ u) (fun i h => h.IsStrIter it ty x t i) where
  mem := by simp
  frame := fun _ _ _ st hk => let ⟨o, ho, r⟩ := st; ⟨o, hk it (by simp) o ho, r⟩
  item := fun i s Q E Pv hv st hQ => by
    cases e : x.cps[i]? with
    | none => rw [e] at hv; cases hv
    | some c =>
      rw [e] at hv
      cases hv
      unfold Builtin.SmallTypes.nextOrEnd
      rcases hty with rfl | rfl
      · exact wpAny_bind (wpAny_attempt (wpAny_nextOf_ascii_item st e fun h' a b => wpAny_pure (hQ _ h' (s.toks + 1) ⟨_, rfl⟩ a b)))
      · exact wpAny_bind (wpAny_attempt (wpAny_nextOf_wide_item st e fun h' a b => wpAny_pure (hQ _ h' (s.toks + 1) ⟨_, rfl⟩ a b)))
  done := fun i s Q E hv st hQ => by
    rcases hty with rfl | rfl
    · exact drx_end (fun E' h => wpAny_nextOf_ascii_end hh st (Option.map_eq_none_iff.mp hv) h) hQ
    · exact drx_end (fun E' h => wpAny_nextOf_wide_end hh st (Option.map_eq_none_iff.mp hv) h) hQ
end
/-- what a zip over two iterators is made of lies apart -/
structure ZSp (z TI TO i1 i2 : Addr) (d1 d2 : List Addr) : Prop where
  TIz : TI ≠ z
  TOz : TO ≠ z
  TITO : TI ≠ TO
  z1 : z ∉ d1
  z2 : z ∉ d2
  o1 : TO ∉ d1
  o2 : TO ∉ d2
  t1 : TI ∉ d1
  t2 : TI ∉ d2
  a : i1 ∉ d2
  b : i2 ∉ d1
section
variable {prog : Program} {w : World} {A : Around} {E : Value → Shared → Prop} {s : Shared} {z TI TO i1 i2 : Addr} {d1 d2 : List Addr} {v1 v2 : Nat → Option (Value → Prop)} {S1 S2 : Nat → Heap → Prop} {i : Nat} {a b : Value}
theorem zipX_next_item {Q : Value → Shared → Prop} {P1 P2 : Value → Prop} (S : ZSp z TI TO i1 i2 d1 d2) (D1 : DrX prog w A i1 d1 v1 S1) (D2 : DrX prog w A i2 d2 v2 S2)
    (hz : IsZipS s.heap z TI TO .none) (hTI : IsPair s.heap TI (.ref i1) (.ref i2)) (hTO : IsPair s.heap TO a b) (st1 : S1 i s.heap) (st2 : S2 i s.heap) (h1 : v1 i = some P1) (h2 : v2 i = some P2)
    (hQ : ∀ x y h' tk, P1 x → P2 y → IsZipS h' z TI TO (rawInt s.heap.objs.size) → IsPair h' TO x y → S1 (i + 1) h' → S2 (i + 1) h' → IsPair h' s.heap.objs.size x y → h'.objs.size = s.heap.objs.size + 1 →
      (∀ c o, c ≠ z → c ≠ TO → c ≠ i1 → c ≠ i2 → s.heap.get? c = some o → h'.get? c = some o) → Q (.ref s.heap.objs.size) { s with heap := h', toks := tk }) :
    wpAny (model prog w) A (Builtin.«zip.__next__» ⟨[.ref z], []⟩) (fun fin s' => ∃ v, fin = .done (.ret v) ∧ Q v s') E s := by
  obtain ⟨hp, g, d, tk0, os⟩ := s
  have zi1 : z ≠ i1 := fun q => S.z1 (by rw [q]; exact D1.mem)
  have zi2 : z ≠ i2 := fun q => S.z2 (by rw [q]; exact D2.mem)
  have oi1 : TO ≠ i1 := fun q => S.o1 (by rw [q]; exact D1.mem)
  have oi2 : TO ≠ i2 := fun q => S.o2 (by rw [q]; exact D2.mem)
  show wpAny _ _ (field (.ref z) 2 >>= _) _ _ _
  refine wpAny_bind (wpAny_field hz rfl (x := .bool true) rfl ?_)
  show wpAny _ _ (field (.ref z) 3 >>= _) _ _ _
  refine wpAny_bind (wpAny_field hz rfl (x := .ref TI) rfl ?_)
  refine wpAny_bind (wpAny_seqItems hTI rfl ?_)
  show wpAny _ _ (Builtin.SmallTypes.ownedTupleIsFree (.ref z) >>= _) _ _ _
  refine wpAny_bind ?_
  unfold Builtin.SmallTypes.ownedTupleIsFree
  refine wpAny_bind (wpAny_field hz rfl (x := .none) rfl (wpAny_pure ?_))
  simp only [if_true]
  refine wpAny_bind (wpAny_rule ?_)
  refine wpAny_bind (wpAny_field hz rfl (x := .ref TO) rfl ?_)
  refine wpAny_bind (wpAny_setField_rec hz (by simp) fun k1 hz1 hs1 => ?_)
  replace hz1 : IsZipS k1 z TI TO .ellipsis := hz1
  replace hs1 : Heap.SameBut z hp k1 := hs1
  refine wpAny_bind ?_
  simp only [List.zipIdx_cons, List.zipIdx_nil, List.forIn_cons, List.forIn_nil]
  refine wpAny_bind (wpAny_bind (wpAny_onRaise ?_))
  show wpAny _ _ (Builtin.SmallTypes.nextOrEnd (.ref i1)) _ _ ⟨k1, g, d, tk0, os⟩
  refine D1.item i _ _ _ P1 h1 (D1.over st1 hs1 S.z1) fun x k2 tk1 px st1' hs2 => ?_
  replace hs2 : Heap.SameBut i1 k1 k2 := hs2
  have to2 : IsPair k2 TO a b := hs2.extBut _ _ oi1 (hs1.extBut _ _ S.TOz hTO)
  refine wpAny_bind (wpAny_seqItems (s := ⟨k2, g, d, tk1, os⟩) to2 rfl ?_)
  refine wpAny_bind (wpAny_updateSeq_pair (s := ⟨k2, g, d, tk1, os⟩) to2 fun k3 to3 hs3 => ?_)
  replace to3 : IsPair k3 TO x b := to3
  replace hs3 : Heap.SameBut TO k2 k3 := hs3
  refine wpAny_bind (wpAny_letGo (wpAny_pure ?_))
  refine wpAny_bind (wpAny_bind (wpAny_onRaise ?_))
  show wpAny _ _ (Builtin.SmallTypes.nextOrEnd (.ref i2)) _ _ ⟨k3, g, d, tk1, os⟩
  refine D2.item i _ _ _ P2 h2 (D2.over (D2.over (D2.over st2 hs1 S.z2) hs2 S.a) hs3 S.o2) fun y k4 tk2 py st2' hs4 => ?_
  replace hs4 : Heap.SameBut i2 k3 k4 := hs4
  have to4 : IsPair k4 TO x b := hs4.extBut _ _ oi2 to3
  refine wpAny_bind (wpAny_seqItems (s := ⟨k4, g, d, tk2, os⟩) to4 rfl ?_)
  refine wpAny_bind (wpAny_updateSeq_pair (s := ⟨k4, g, d, tk2, os⟩) to4 fun k5 to5 hs5 => ?_)
  replace to5 : IsPair k5 TO x y := to5
  replace hs5 : Heap.SameBut TO k4 k5 := hs5
  refine wpAny_bind (wpAny_letGo (wpAny_pure (wpAny_pure ?_)))
  refine wpAny_bind (wpAny_seqItems (s := ⟨k5, g, d, tk2, os⟩) to5 rfl ?_)
  refine wpAny_bind (wpAny_newTuple ?_)
  have hsz : k5.objs.size = hp.objs.size := by rw [hs5.1, hs4.1, hs3.1, hs2.1, hs1.1]
  have hz5 : IsZipS k5 z TI TO .ellipsis := hs5.extBut _ _ S.TOz.symm (hs4.extBut _ _ zi2 (hs3.extBut _ _ S.TOz.symm (hs2.extBut _ _ zi1 hz1)))
  have hk5 : ∀ c o, c ≠ z → c ≠ TO → c ≠ i1 → c ≠ i2 → hp.get? c = some o → k5.get? c = some o := fun c o c1 c2 c3 c4 e =>
    hs5.extBut _ _ c2 (hs4.extBut _ _ c4 (hs3.extBut _ _ c2 (hs2.extBut _ _ c3 (hs1.extBut _ _ c1 e))))
  have e1 : S1 (i + 1) k5 := D1.over (D1.over (D1.over st1' hs3 S.o1) hs4 S.b) hs5 S.o1
  have e2 : S2 (i + 1) k5 := D2.over st2' hs5 S.o2
  have hzlt : z < k5.objs.size := Heap.lt_size hz5
  show wpAny _ _ (Builtin.SmallTypes.ownedTupleHandOut (.ref z) (.ref k5.objs.size) >>= _) _ _ ⟨k5.push { cls := .type "tuple", data := .seq #[x, y] }, g, d, tk2, os⟩
  refine wpAny_bind ?_
  unfold Builtin.SmallTypes.ownedTupleHandOut
  have hz6 : IsZipS (k5.push { cls := .type "tuple", data := .seq #[x, y] }) z TI TO .ellipsis := Heap.get?_push_of_some _ hz5
  refine wpAny_bind (wpAny_setField_rec hz6 (by simp) fun k7 hz7 hs7 => ?_)
  replace hz7 : IsZipS k7 z TI TO (rawInt k5.objs.size) := hz7
  refine wpAny_setField_rec hz7 (by simp) fun k8 hz8 hs8 => ?_
  replace hz8 : IsZipS k8 z TI TO (rawInt k5.objs.size) := hz8
  replace hs7 : Heap.SameBut z (k5.push { cls := .type "tuple", data := .seq #[x, y] }) k7 := hs7
  replace hs8 : Heap.SameBut z k7 k8 := hs8
  have up : ∀ c o, c ≠ z → k5.get? c = some o → k8.get? c = some o := fun c o c1 e => hs8.extBut _ _ c1 (hs7.extBut _ _ c1 (Heap.get?_push_of_some _ e))
  have hT8 : IsPair k8 k5.objs.size x y := hs8.extBut _ _ (Nat.ne_of_gt hzlt) (hs7.extBut _ _ (Nat.ne_of_gt hzlt) (Heap.get?_push_size _ rfl))
  have sz8 : k8.objs.size = k5.objs.size + 1 := by rw [hs8.1, hs7.1, Heap.size_push]
  rw [hsz] at hz8 hT8 sz8
  refine wpAny_pure ⟨_, rfl, ?_⟩
  show Q (.ref k5.objs.size) ⟨k8, g, d, tk2, os⟩
  rw [hsz]
  exact hQ x y k8 tk2 px py hz8 (up _ _ S.TOz to5) (D1.frame _ _ _ e1 fun c hc o e => up c o (fun q => S.z1 (by rw [← q]; exact hc)) e) (D2.frame _ _ _ e2 fun c hc o e => up c o (fun q => S.z2 (by rw [← q]; exact hc)) e) hT8 sz8 fun c o c1 c2 c3 c4 e => up c o c1 (hk5 c o c1 c2 c3 c4 e)
theorem zipX_next_end {Q : Fin → Shared → Prop} (hh : A.handled = none) (S : ZSp z TI TO i1 i2 d1 d2) (D1 : DrX prog w A i1 d1 v1 S1) (D2 : DrX prog w A i2 d2 v2 S2)
    (hz : IsZipS s.heap z TI TO .none) (hTI : IsPair s.heap TI (.ref i1) (.ref i2)) (hTO : IsPair s.heap TO a b) (st1 : S1 i s.heap) (st2 : S2 i s.heap) (h1 : v1 i = none) (h2 : v2 i = none)
    (hE : ∀ h' e, (∀ c o, c ≠ z → c ≠ TO → c ≠ i1 → c ≠ i2 → s.heap.get? c = some o → h'.get? c = some o) → (∃ o, h'.get? e = some o ∧ o.cls = .type "StopIteration") → E (.ref e) { s with heap := h' }) :
    wpAny (model prog w) A (Builtin.«zip.__next__» ⟨[.ref z], []⟩) Q E s := by
  have zi1 : z ≠ i1 := fun q => S.z1 (by rw [q]; exact D1.mem)
  show wpAny _ _ (field (.ref z) 2 >>= _) _ _ _
  refine wpAny_bind (wpAny_field hz rfl (x := .bool true) rfl ?_)
  show wpAny _ _ (field (.ref z) 3 >>= _) _ _ _
  refine wpAny_bind (wpAny_field hz rfl (x := .ref TI) rfl ?_)
  refine wpAny_bind (wpAny_seqItems hTI rfl ?_)
  show wpAny _ _ (Builtin.SmallTypes.ownedTupleIsFree (.ref z) >>= _) _ _ _
  refine wpAny_bind ?_
  unfold Builtin.SmallTypes.ownedTupleIsFree
  refine wpAny_bind (wpAny_field hz rfl (x := .none) rfl (wpAny_pure ?_))
  simp only [if_true]
  refine wpAny_bind (wpAny_rule ?_)
  refine wpAny_bind (wpAny_field hz rfl (x := .ref TO) rfl ?_)
  refine wpAny_bind (wpAny_setField_rec hz (by simp) fun k1 hz1 hs1 => ?_)
  replace hz1 : IsZipS k1 z TI TO .ellipsis := hz1
  refine wpAny_bind ?_
  simp only [List.zipIdx_cons, List.zipIdx_nil, List.forIn_cons, List.forIn_nil]
  refine wpAny_bind (wpAny_bind (wpAny_onRaise ?_))
  show wpAny _ _ (Builtin.SmallTypes.nextOrEnd (.ref i1)) _ _ _
  refine D1.done i _ _ _ h1 (D1.over st1 hs1 S.z1) fun k2 hs2 => ?_
  have hz2 : IsZipS k2 z TI TO .ellipsis := hs2 _ _ zi1 hz1
  refine wpAny_bind (wpAny_setField_rec hz2 (by simp) fun k3 hz3 hs3 => ?_)
  have st3 : S2 i k3 := D2.over (D2.frame _ _ _ (D2.over st2 hs1 S.z2) fun c hc o e => hs2 c o (fun q => S.a (by rw [← q]; exact hc)) e) hs3 S.z2
  wp_walk using D2.done i _ _ _ h2 st3
  intro k4 hs4
  rw [if_neg (by decide)]
  wp_walk
  simp only [raiseNew]
  refine wpAny_bind (wpAny_handled ?_)
  rw [show A.handled = none from hh]
  refine wpAny_bind (wpAny_pure (wpAny_throw ?_))
  refine hE _ _ (fun c o c1 _ c3 c4 e => ?_) ⟨_, Heap.get?_push_size _ rfl, rfl⟩
  exact Heap.get?_push_of_some _ (Heap.get?_push_of_some _ (hs4 _ _ c4 (hs3.extBut _ _ c1 (hs2 _ _ c3 (hs1.extBut _ _ c1 e)))))
theorem pyNext_zipX_item {Q : Option Value → Shared → Prop} {P1 P2 : Value → Prop} (S : ZSp z TI TO i1 i2 d1 d2) (D1 : DrX prog w A.in1 i1 d1 v1 S1) (D2 : DrX prog w A.in1 i2 d2 v2 S2)
    (hz : IsZipS s.heap z TI TO .none) (hTI : IsPair s.heap TI (.ref i1) (.ref i2)) (hTO : IsPair s.heap TO a b) (st1 : S1 i s.heap) (st2 : S2 i s.heap) (h1 : v1 i = some P1) (h2 : v2 i = some P2)
    (hQ : ∀ x y h' tk, P1 x → P2 y → IsZipS h' z TI TO (rawInt s.heap.objs.size) → IsPair h' TO x y → S1 (i + 1) h' → S2 (i + 1) h' → IsPair h' s.heap.objs.size x y → h'.objs.size = s.heap.objs.size + 1 →
      (∀ c o, c ≠ z → c ≠ TO → c ≠ i1 → c ≠ i2 → s.heap.get? c = some o → h'.get? c = some o) → Q (some (.ref s.heap.objs.size)) { s with heap := h', toks := tk }) :
    wpAny (model prog w) A (pyNext (.ref z)) Q E s := by
  have hT : s.TypeIs (.ref z) "zip" := ⟨_, hz, rfl⟩
  unfold pyNext
  exact wpAny_bind (wpAny_attempt (wpAny_callSpecial?_slot (name := Str.ofString "__next__") hT F.slot_zip_next
    (wpAny_call_entry F.slot_zip_next hT F.entry_zip_next
      (zipX_next_item S D1 D2 hz hTI hTO st1 st2 h1 h2 fun x y h' tk a1 a2 a3 a4 a5 a6 a7 a8 a9 => wpAny_pure (hQ x y h' tk a1 a2 a3 a4 a5 a6 a7 a8 a9)) (F.args_zip_next_1 _))))
theorem pyNext_zipX_end {Q : Option Value → Shared → Prop} (hh : A.handled = none) (S : ZSp z TI TO i1 i2 d1 d2) (D1 : DrX prog w A.in1 i1 d1 v1 S1) (D2 : DrX prog w A.in1 i2 d2 v2 S2)
    (hz : IsZipS s.heap z TI TO .none) (hTI : IsPair s.heap TI (.ref i1) (.ref i2)) (hTO : IsPair s.heap TO a b) (st1 : S1 i s.heap) (st2 : S2 i s.heap) (h1 : v1 i = none) (h2 : v2 i = none)
    (hQ : ∀ h', (∀ c o, c ≠ z → c ≠ TO → c ≠ i1 → c ≠ i2 → s.heap.get? c = some o → h'.get? c = some o) → Q none { s with heap := h' }) : wpAny (model prog w) A (pyNext (.ref z)) Q E s := by
  have hT : s.TypeIs (.ref z) "zip" := ⟨_, hz, rfl⟩
  unfold pyNext
  refine wpAny_bind (wpAny_attempt (wpAny_callSpecial?_slot (name := Str.ofString "__next__") hT F.slot_zip_next
    (wpAny_call_entry F.slot_zip_next hT F.entry_zip_next (zipX_next_end (A := A.in1) hh S D1 D2 hz hTI hTO st1 st2 h1 h2 fun h' e hk he => ?_) (F.args_zip_next_1 _))))
  obtain ⟨o, ho, hc⟩ := he
  refine wpAny_bind (wpAny_isInstance (T := "StopIteration") (b := true) ⟨o, ho, hc⟩ isSubtype_stop ?_)
  exact wpAny_pure (hQ _ hk)
end
end PySem

/-! # zip(text, xs, strict=True): the call, the walk -/
namespace PySem
open Sem (wp)
abbrev SqO : Bool → Addr → Obj
  | true, l => { cls := .type "tuple_iterator", data := .fields #[.ref l, .int 0 0] }
  | false, l => { cls := .type "list_iterator", data := .fields #[.ref l, .int 0 0] }
def IsB : Bool → Heap → Addr → Array Value → Prop
  | true, h, a, xs => h.IsTuple a xs
  | false, h, a, xs => h.IsList a xs
def ItB : Bool → Heap → Addr → Addr → Nat → Prop
  | true, h, a, l, i => h.IsTupleIter a l i
  | false, h, a, l, i => h.IsListIter a l i
theorem IsB.push {tup : Bool} {h : Heap} {a : Addr} {xs : Array Value} (x : IsB tup h a xs) (o : Obj) : IsB tup (h.push o) a xs := by
  cases tup
  · exact Heap.IsList.push x _
  · obtain ⟨ob, e, r⟩ := (show h.IsTuple a xs from x)
    exact ⟨ob, Heap.get?_push_of_some _ e, r⟩
theorem IsB.lt {tup : Bool} {h : Heap} {a : Addr} {xs : Array Value} (x : IsB tup h a xs) : a < h.objs.size := by
  cases tup
  · obtain ⟨ob, e, r⟩ := (show h.IsList a xs from x); exact Heap.lt_size e
  · obtain ⟨ob, e, r⟩ := (show h.IsTuple a xs from x); exact Heap.lt_size e
theorem ItB.at_ {tup : Bool} {h h' : Heap} {a l : Addr} {i : Nat} (x : ItB tup h a l i) (k : ∀ o, h.get? a = some o → h'.get? a = some o) : ItB tup h' a l i := by
  cases tup
  · obtain ⟨ob, e, r⟩ := (show h.IsListIter a l i from x); exact ⟨ob, k _ e, r⟩
  · obtain ⟨ob, e, r⟩ := (show h.IsTupleIter a l i from x); exact ⟨ob, k _ e, r⟩
theorem ItB.ob {tup : Bool} {h : Heap} {a l : Addr} {i : Nat} (x : ItB tup h a l i) : ∃ o, h.get? a = some o ∧ ∀ v, o.data ≠ .cell v := by
  cases tup
  · obtain ⟨ob, e, _, d⟩ := (show h.IsListIter a l i from x); exact ⟨ob, e, fun v z => by rw [d] at z; cases z⟩
  · obtain ⟨ob, e, _, d⟩ := (show h.IsTupleIter a l i from x); exact ⟨ob, e, fun v z => by rw [d] at z; cases z⟩
section
variable {prog : Program} {w : World} {A : Around} {E : Value → Shared → Prop} {s : Shared}
theorem pyIter_B {tup : Bool} {l : Addr} {xs : Array Value} {Q : Value → Shared → Prop} (hl : IsB tup s.heap l xs) (h : Q (.ref s.heap.objs.size) { s with heap := s.heap.push (SqO tup l) }) : wpAny (model prog w) A (pyIter (.ref l)) Q E s := by
  cases tup
  · exact wpAny_pyIter_list (show s.heap.IsList l xs from hl) h
  · exact wpAny_pyIter_tuple (show s.heap.IsTuple l xs from hl) h
theorem drx_B (tup : Bool) (hh : A.handled = none) {it l : Addr} (hne : l ≠ it) (items : Array Value) : DrX prog w A it [it, l] (fun i => items[i]?.map fun v x => x = v) (fun i h => ItB tup h it l i ∧ IsB tup h l items) := by
  cases tup
  · exact drx_list hh hne items
  · exact drx_tup hh hne items
end
abbrev zxH1 (h : Heap) (x : Str) (t : Tok) : Heap := h.push { cls := .type (strIterType x), data := .fields #[.str x t, .int 0 0] }
abbrev zxH2 (h : Heap) (x : Str) (t : Tok) (tup : Bool) (l : Addr) : Heap := (zxH1 h x t).push (SqO tup l)
abbrev zxH3 (h : Heap) (x : Str) (t : Tok) (tup : Bool) (l : Addr) : Heap := (zxH2 h x t tup l).push { cls := .type "tuple", data := .seq #[.ref h.objs.size, .ref (zxH1 h x t).objs.size] }
abbrev zxH4 (h : Heap) (x : Str) (t : Tok) (tup : Bool) (l : Addr) : Heap := (zxH3 h x t tup l).push { cls := .type "tuple", data := .seq #[.none, .none] }
abbrev zxH5 (h : Heap) (x : Str) (t : Tok) (tup : Bool) (l : Addr) : Heap := (zxH4 h x t tup l).push { cls := .type "zip", data := .fields #[.none, .bool false, .bool true, .ref (zxH2 h x t tup l).objs.size, .ref (zxH3 h x t tup l).objs.size] }
theorem meets_zipX_new (tup : Bool) (x : Str) (t : Tok) (l : Addr) (ys : Array Value) :
    Meets (Builtin.«zip.__new__» ⟨[.type "zip", .str x t, .ref l], kwStrict⟩) (fun _ R s => IsB tup s.heap l ys ∧
      R (.ok (.ret (.ref (zxH4 s.heap x t tup l).objs.size))) { s with heap := zxH5 s.heap x t tup l }) :=
  .of_wp fun prog w A R s h => by
    obtain ⟨hp, g, d, tk, os⟩ := s; obtain ⟨hl, h⟩ := h
    have hsub := sub_zip
    have hL2 : IsB tup (Shared.heap ⟨zxH1 hp x t, g, d, tk, os⟩) l ys := IsB.push hl _
    wp_walk using wpAny_pyIter_strU, pyIter_B hL2
    exact ⟨_, rfl, h⟩
section
variable {prog : Program} {w : World} {A : Around} {E : Value → Shared → Prop} {s : Shared}
theorem call_zipX {tup : Bool} {x : Str} {t : Tok} {l : Addr} {ys : Array Value} {Q : Value → Shared → Prop} (hl : IsB tup s.heap l ys)
    (h : ∀ h', IsZipS h' (s.heap.objs.size + 4) (s.heap.objs.size + 2) (s.heap.objs.size + 3) .none → IsPair h' (s.heap.objs.size + 2) (.ref s.heap.objs.size) (.ref (s.heap.objs.size + 1)) →
      IsPair h' (s.heap.objs.size + 3) .none .none → h'.IsStrIter s.heap.objs.size (strIterType x) x t 0 → ItB tup h' (s.heap.objs.size + 1) l 0 → h'.objs.size = s.heap.objs.size + 5 →
      (∀ c o, s.heap.get? c = some o → h'.get? c = some o) → Q (.ref (s.heap.objs.size + 4)) { s with heap := h' }) :
    wpAny (model prog w) A (call (.type "zip") [.str x t, .ref l] kwStrict) Q E s := by
  refine callType_meetsK (Q₁ := fun obj s₁ => s₁.TypeIs obj "zip" ∧ Q obj s₁) F.called_zip (typeCall_zipS _ _) (newCall_zipS _ _) F.entry_zip_new F.entry_object_init
    (meets_zipX_new tup x t l ys) ⟨hl, ?_⟩ fun obj _ hq => ⟨hq.1, args_object_initS obj _ _, _, object_init_meetsK F.called_zip.init.lookup F.called_zip.made (by decide), hq.1, rfl, hq.2⟩
  have q1 : (zxH1 s.heap x t).objs.size = s.heap.objs.size + 1 := Heap.size_push ..
  have q2 : (zxH2 s.heap x t tup l).objs.size = s.heap.objs.size + 2 := by rw [Heap.size_push, q1]
  have q3 : (zxH3 s.heap x t tup l).objs.size = s.heap.objs.size + 3 := by rw [Heap.size_push, q2]
  have q4 : (zxH4 s.heap x t tup l).objs.size = s.heap.objs.size + 4 := by rw [Heap.size_push, q3]
  have q5 : (zxH5 s.heap x t tup l).objs.size = s.heap.objs.size + 5 := by rw [Heap.size_push, q4]
  have g5 : (zxH5 s.heap x t tup l).get? (zxH4 s.heap x t tup l).objs.size = some _ := Heap.get?_push_size _ rfl
  have g4 : (zxH5 s.heap x t tup l).get? (zxH3 s.heap x t tup l).objs.size = some _ := Heap.get?_push_of_some _ (Heap.get?_push_size _ rfl)
  have g3 : (zxH5 s.heap x t tup l).get? (zxH2 s.heap x t tup l).objs.size = some _ := Heap.get?_push_of_some _ (Heap.get?_push_of_some _ (Heap.get?_push_size _ rfl))
  have g2 : (zxH5 s.heap x t tup l).get? (zxH1 s.heap x t).objs.size = some (SqO tup l) := Heap.get?_push_of_some _ (Heap.get?_push_of_some _ (Heap.get?_push_of_some _ (Heap.get?_push_size _ (by cases tup <;> rfl))))
  have g1 : (zxH5 s.heap x t tup l).get? s.heap.objs.size = some _ := Heap.get?_push_of_some _ (Heap.get?_push_of_some _ (Heap.get?_push_of_some _ (Heap.get?_push_of_some _ (Heap.get?_push_size _ rfl))))
  show _ ∧ _
  rw [q2, q3, q4] at g5
  rw [q1, q2] at g3
  rw [q3] at g4
  rw [q1] at g2
  rw [q4]
  refine ⟨⟨_, g5, rfl⟩, h _ g5 g3 g4 ⟨_, g1, rfl, rfl⟩ ?_ q5 fun c o e =>
    Heap.get?_push_of_some _ (Heap.get?_push_of_some _ (Heap.get?_push_of_some _ (Heap.get?_push_of_some _ (Heap.get?_push_of_some _ e))))⟩
  cases tup
  · exact ⟨_, g2, rfl, rfl⟩
  · exact ⟨_, g2, rfl, rfl⟩
end
end PySem
namespace L2
open PySem PySem.Spec PyProof.Rows
def SqB : Bool → PySem.W.Frag → Hp → Addr → List V → Prop
  | true, K, H, a, xs => SqT K H a xs
  | false, K, H, a, xs => SqL K H a xs
section
variable {X : Cx} {pins : List (Addr × Obj)} {σ : St} {H : Hp} {s : Shared} {tup : Bool} {a : Addr} {xs ys : List V}
theorem sqB_at (I : Inv X pins σ H s) (h : SqB tup X.K H a xs) : ∃ its, Vals xs its ∧ IsB tup s.heap a its.toArray := by
  cases tup
  · obtain ⟨its, r, p, _⟩ := I.list h
    exact ⟨its, r, p.isList⟩
  · obtain ⟨its, r, p, _⟩ := I.tuple h
    exact ⟨its, r, p⟩
theorem sqB_inj (I : Inv X pins σ H s) (h : SqB tup X.K H a xs) (h' : SqB tup X.K H a ys) : xs = ys := by
  cases tup
  · exact I.list_inj h h'
  · exact I.tuple_inj h h'
end
def ItzX (K : PySem.W.Frag) (x : Str) (b : Addr) (tup : Bool) : It :=
  ⟨fun i H => ∃ (c : Nat) (ys : List V) (y : V), x.cps[i]? = some c ∧ SqB tup K H b ys ∧ ys[i]? = some y,
    fun i H v H' => ∃ T c y, v = .ref T ∧ H T = none ∧ H' = upd H T (.tup [.str ⟨#[c]⟩, y]) ∧ x.cps[i]? = some c ∧ ∀ ys, SqB tup K H b ys → ys[i]? = some y,
    fun i H => ∃ ys : List V, SqB tup K H b ys ∧ x.cps.size ≤ i ∧ ys.length ≤ i⟩
theorem sit_ty (x : Str) : strIterType x = "str_ascii_iterator" ∨ strIterType x = "str_iterator" := by
  unfold strIterType
  split
  · exact .inl rfl
  · exact .inr rfl
theorem turn_zipX {P : Program} {w : World} {K : PySem.W.Frag} {elts : List Expr} {kk : Nat} {tpos : Pos} {b z TI TO i1 i2 : Addr} {x : Str} {t : Tok} {tup : Bool} (D : ZSp z TI TO i1 i2 [i1] [i2, b]) (nb : b ≠ i2) (n1 : TI ≠ i1) (n2 : TI ≠ i2) (n3 : z ≠ i1) (n4 : z ≠ i2) :
    Turn P w K (.Tuple elts kk tpos) (ItzX K x b tup) [z, TI, TO, i1, i2] z (fun i h => IsZipS h z TI TO .none ∧ IsPair h TI (.ref i1) (.ref i2) ∧ (∃ x y, IsPair h TO x y) ∧ h.IsStrIter i1 (strIterType x) x t i ∧ ItB tup h i2 b i) where
  mem := by simp
  obj := fun i h st c hc => by
    obtain ⟨hz, hTI, ⟨x, y, hTO⟩, ⟨o1, e1, _, d1⟩, h2⟩ := st
    have e' : c = z ∨ c = TI ∨ c = TO ∨ c = i1 ∨ c = i2 := by simpa using hc
    rcases e' with q | q | q | q | q
    · rw [q]; exact ⟨_, hz, fun v q => nomatch q⟩
    · rw [q]; exact ⟨_, hTI, fun v q => nomatch q⟩
    · rw [q]; exact ⟨_, hTO, fun v q => nomatch q⟩
    · rw [q]; exact ⟨o1, e1, fun v q => by rw [d1] at q; cases q⟩
    · rw [q]; exact h2.ob
  keep := fun i h h' st k => by
    obtain ⟨hz, hTI, ⟨x, y, hTO⟩, ⟨o1, e1, r1⟩, h2⟩ := st
    exact ⟨k z (by simp) _ hz, k TI (by simp) _ hTI, ⟨x, y, k TO (by simp) _ hTO⟩, ⟨o1, k i1 (by simp) o1 e1, r1⟩, h2.at_ fun o q => k i2 (by simp) o q⟩
  item := by
    intro X hP hw hK hc i pins s σ H E I hf st hg
    subst hP hw hK
    obtain ⟨hz, hTI, ⟨x0, y0, hTO⟩, h1, h2⟩ := st
    obtain ⟨c, ys, y, hx, hqy, hy⟩ := hg
    obtain ⟨its2, rv2, p2⟩ := sqB_at I hqy
    obtain ⟨u2, hu2, ru2⟩ := rv2.get hy
    have hzl : z < s.heap.objs.size := Heap.lt_size hz
    have hh := I.ok.hd hc
    refine pyNext_zipX_item (i := i) (P1 := fun v => ∃ u, v = Value.str ⟨#[c]⟩ u) (P2 := fun v => v = u2) D (drx_text (A := X.A.in1) hh (sit_ty x) x t) (drx_B (A := X.A.in1) tup hh nb its2.toArray) hz hTI hTO h1 ⟨h2, p2⟩ (by rw [hx]; rfl) (by rw [List.getElem?_toArray, hu2]; rfl) fun u v h' tk pu pv z' TO' h1' h2' hT hsz hk => ?_
    obtain ⟨tk', rfl⟩ := pu
    subst pv
    refine ⟨_, rfl, wpAny_letOwnedTupleGo_zipS (s := { s with heap := h', toks := tk }) z' fun h'' z'' sb => ?_⟩
    have hT2 : h''.get? s.heap.objs.size = some { cls := .type "tuple", data := .seq #[.str ⟨#[c]⟩ tk', v] } := (sb.2 _ (Nat.ne_of_gt hzl)).trans hT
    have new : ObjOk X.prog X.w (upd H s.heap.objs.size (.tup [.str ⟨#[c]⟩, y])) h'' s.heap.objs.size (.tup [.str ⟨#[c]⟩, y]) :=
      ⟨by show 2 ≤ sizeLine; decide, [.str ⟨#[c]⟩ tk', v], .cons ⟨_, rfl⟩ (.cons ru2 .nil), ⟨_, hT2, rfl, _, rfl⟩⟩
    have I1 : Inv X pins σ (upd H s.heap.objs.size (.tup [.str ⟨#[c]⟩, y])) { s with heap := h'', toks := tk } :=
      I.turnedNew (t' := tk) (ch := [z, TI, TO, i1, i2]) (fun c o hb q => (sb.2 c (fun q' => hb (by simp [q']))).trans (hk c o (fun q' => hb (by simp [q'])) (fun q' => hb (by simp [q'])) (fun q' => hb (by simp [q'])) (fun q' => hb (by simp [q'])) q)) hf (Nat.le_refl _) new
    refine ⟨.ref s.heap.objs.size, _, I1, rfl, ⟨_, c, y, rfl, I.hok.fresh (Nat.le_refl _), rfl, hx, fun l hl => by rw [sqB_inj I hl hqy]; exact hy⟩, ⟨z'', ?_, ⟨Value.str ⟨#[c]⟩ tk', v, ?_⟩, ?_, ?_⟩, fun c hcm => ?_⟩
    · exact (sb.2 _ D.TIz).trans (hk _ _ D.TIz D.TITO n1 n2 hTI)
    · exact (sb.2 _ D.TOz).trans TO'
    · obtain ⟨o1, e1, r1⟩ := h1'
      exact ⟨o1, (sb.2 _ n3.symm).trans e1, r1⟩
    · exact h2'.1.at_ fun o q => (sb.2 _ n4.symm).trans q
    · have hlt : c < s.heap.objs.size := by
        have e' : c = z ∨ c = TI ∨ c = TO ∨ c = i1 ∨ c = i2 := by simpa using hcm
        rcases e' with q | q | q | q | q
        · rw [q]; exact hzl
        · rw [q]; exact Heap.lt_size hTI
        · rw [q]; exact Heap.lt_size hTO
        · rw [q]; obtain ⟨_, e1, _⟩ := h1; exact Heap.lt_size e1
        · rw [q]; obtain ⟨_, e1, _⟩ := h2.ob; exact Heap.lt_size e1
      rw [upd_ne (Nat.ne_of_lt hlt)]
      exact (hf c hcm).1
  done := by
    intro X hP hw hK hc i pins s σ H E I hf st hg
    subst hP hw hK
    obtain ⟨hz, hTI, ⟨x0, y0, hTO⟩, h1, h2⟩ := st
    obtain ⟨ys, hqy, q1, q2⟩ := hg
    obtain ⟨its2, rv2, p2⟩ := sqB_at I hqy
    have l2 := rv2.length
    have hh := I.ok.hd hc
    refine pyNext_zipX_end (i := i) hh D (drx_text (A := X.A.in1) hh (sit_ty x) x t) (drx_B (A := X.A.in1) tup hh nb its2.toArray) hz hTI hTO h1 ⟨h2, p2⟩ (by rw [Array.getElem?_eq_none q1]; rfl) (by rw [List.getElem?_toArray, List.getElem?_eq_none (by omega)]; rfl) fun h' hk => ⟨rfl, I.turnedL (t' := s.toks) (ch := [z, TI, TO, i1, i2]) (fun c o hb q =>
      hk c o (fun q' => hb (by simp [q'])) (fun q' => hb (by simp [q'])) (fun q' => hb (by simp [q'])) (fun q' => hb (by simp [q'])) q) hf⟩
  self := fun A i s Q E st h => wpAny_pyIter_zipS st.1 h
def iZipX (K : PySem.W.Frag) (ta : TA) : TI := fun σ H R => ta σ H fun vs H1 => ∃ x b tup ys, vs = [.str x, .ref b] ∧ SqB tup K H1 b ys ∧ R (ItzX K x b tup) H1
theorem zx_apart {n b : Nat} (h : b < n) : ZSp (n + 4) (n + 2) (n + 3) n (n + 1) [n] [n + 1, b] := by
  have g : ∀ k : Nat, ¬ (n + k : Nat) = b := fun k q => absurd h (by rw [← q]; exact Nat.not_lt.mpr (Nat.le_add_right _ _))
  have m : ∀ k : Nat, 0 < k → ¬ (n + k : Nat) = n := fun k hk q => absurd hk (by have : n + k = n := q; omega)
  have r : ∀ i j : Nat, i ≠ j → ¬ (n + i : Nat) = n + j := fun i j hij q => hij (by have : n + i = n + j := q; omega)
  have two : ∀ {x y u : Nat}, ¬ x = y → ¬ x = u → x ∉ [y, u] := fun h1 h2 z => by
    rcases List.mem_cons.mp z with e | e
    · exact h1 e
    · exact h2 (List.mem_singleton.mp e)
  exact ⟨r 2 4 (by decide), r 3 4 (by decide), r 2 3 (by decide), fun z => m 4 (by decide) (List.mem_singleton.mp z), two (r 4 1 (by decide)) (g 4), fun z => m 3 (by decide) (List.mem_singleton.mp z), two (r 3 1 (by decide)) (g 3),
    fun z => m 2 (by decide) (List.mem_singleton.mp z), two (r 2 1 (by decide)) (g 2), two (r 0 1 (by decide)) (g 0), fun z => m 1 (by decide) (List.mem_singleton.mp z)⟩
theorem pi_zipX {X : Cx} {e e2 : Expr} {ta : TA} {p pos tpos kp cp : Pos} {ci : Nat} {elts : List Expr} {kk : Nat} (hg : Gl X "zip") (hm : X.mg "zip" = none) (ha : PA X [e, e2] ta)
    (he : backTo pos (starEach [e, e2] X.env) = (false, eval e X.env) :: backTo pos (starEach [e2] X.env) := by rfl) (hpl : (backTo pos (starEach [e, e2] X.env)).any (·.1) = false := by rfl) :
    PI X (.Tuple elts kk tpos) (.Call (.Name "zip" p) [e, e2] [⟨some "strict", .Constant (.bool true) ci cp, kp⟩] pos) (iZipX X.K ta) := by
  refine ⟨fun pins s σ H R I h => ?_⟩
  refine wpAny_Call_Name_kw (ld_blt I hg hm PyProof.Rows.boot_zip (PyProof.Rows.callWith_typeKw (thn (ha.run pos pins s σ H _ I h) fun us s1 ⟨vs, H1, I1, r1, q1⟩ => ?_) he hpl))
  refine PyProof.Rows.kws_cons (wpAny_pure (PyProof.Rows.kws_nil ?_))
  show wpAny _ _ (call (.type "zip") us kwStrict) _ _ _
  obtain ⟨x, b, tup, ys, ex, hqy, q⟩ := q1
  subst ex
  cases r1 with
  | cons r rr =>
    cases rr with
    | cons r' rr =>
      cases rr
      cases r'
      obtain ⟨t, rfl⟩ := r
      obtain ⟨its2, rv2, p2⟩ := sqB_at I1 hqy
      have lb : b < s1.heap.objs.size := p2.lt
      refine call_zipX p2 fun h' hz hTI hTO h1 h2 hsz hk => wpAny_pyIter_zipS hz ?_
      have I2 : Inv X pins σ H1 { s1 with heap := h' } := I1.kept (t' := s1.toks) hk
      refine ⟨s1.heap.objs.size + 4, [s1.heap.objs.size + 4, s1.heap.objs.size + 2, s1.heap.objs.size + 3, s1.heap.objs.size, s1.heap.objs.size + 1], _, _, H1, rfl, I2,
        turn_zipX (zx_apart lb) (Nat.ne_of_lt (Nat.lt_succ_of_lt lb)) (Nat.ne_of_gt (by omega)) (Nat.ne_of_gt (by omega)) (Nat.ne_of_gt (by omega)) (Nat.ne_of_gt (by omega)), ⟨hz, hTI, ⟨_, _, hTO⟩, h1, h2⟩, fun c hcm => ?_, q⟩
      have e' : c = s1.heap.objs.size + 4 ∨ c = s1.heap.objs.size + 2 ∨ c = s1.heap.objs.size + 3 ∨ c = s1.heap.objs.size ∨ c = s1.heap.objs.size + 1 := by simpa using hcm
      have hle : s1.heap.objs.size ≤ c := by
        rcases e' with z | z | z | z | z
        · rw [z]; exact Nat.le_add_right _ _
        · rw [z]; exact Nat.le_add_right _ _
        · rw [z]; exact Nat.le_add_right _ _
        · rw [z]; exact Nat.le_refl _
        · rw [z]; exact Nat.le_add_right _ _
      exact I1.fpOk hle (I1.hok.fresh hle)
end L2
namespace Z
open PySem PySem.Spec PyProof.Rows L2
def SrcZX (K : PySem.W.Frag) (R : It → Hp → Prop) : List V → Hp → Prop := fun vs H1 => ∃ x b tup ys, vs = [.str x, .ref b] ∧ SqB tup K H1 b ys ∧ R (ItzX K x b tup) H1
section
variable {X : Cx} {K : PySem.W.Frag} {H Ho : Hp} {σ : L2.St} {R : It → Hp → Prop} {ts : TA} {r0 rs : List (Addr × HO)} {β : Type} [Py β] {v u : V}
theorem zpi_zipX {e e2 : Expr} {ta : TA} {p pos tpos kp cp : Pos} {ci : Nat} {elts : List Expr} {kk : Nat} (hK : X.K = K) (hg : Gl X "zip") (hm : X.mg "zip" = none) (ha : PA X [e, e2] ta)
    (he : backTo pos (starEach [e, e2] X.env) = (false, eval e X.env) :: backTo pos (starEach [e2] X.env) := by rfl) (hpl : (backTo pos (starEach [e, e2] X.env)).any (·.1) = false := by rfl) :
    PI X (.Tuple elts kk tpos) (.Call (.Name "zip" p) [e, e2] [⟨some "strict", .Constant (.bool true) ci cp, kp⟩] pos) (iZipX K ta) := hK ▸ pi_zipX hg hm ha he hpl
theorem k_iZipX (k : ts σ H (SrcZX K R)) : iZipX K ts σ H R := k
theorem chS_len {x : Str} : (chS x).length = x.cps.size := by unfold chS; rw [List.length_map, Array.length_toList]
theorem chS_at {x : Str} {i : Nat} {s : Str} (h : (chS x)[i]? = some s) : ∃ c, x.cps[i]? = some c ∧ s = ⟨#[c]⟩ := by
  unfold chS at h
  rw [List.getElem?_map, Option.map_eq_some_iff] at h
  obtain ⟨c, hc, rfl⟩ := h
  exact ⟨c, by rw [← Array.getElem?_toList]; exact hc, rfl⟩
theorem trn_zipX {x : Str} {ys : List β} {b : Addr} {tup : Bool} {us : List V} (d : DL K Ho us ys) (st : ∀ rs' H' Ho', Same Ho Ho' → Zs rs' H' Ho' → (∀ r ∈ r0, r ∈ rs') → SqB tup K H' b us) (hl : (chS x).length = ys.length) : Trn K r0 (ItzX K x b tup) ((chS x).zip ys) Ho := by
  intro i rs' H' Ho' e z sub
  have s' := st _ _ _ e z sub
  refine ⟨fun p hp => ?_, fun hl2 => ⟨us, s', ?_⟩⟩
  · obtain ⟨hx, hy⟩ := List.getElem?_zip_eq_some.mp hp
    obtain ⟨c, ec, e1⟩ := chS_at hx
    obtain ⟨y, ey, dy⟩ := d.get hy
    refine ⟨⟨c, us, y, ec, s', ey⟩, fun t H'' yy => ?_⟩
    obtain ⟨T, c', y', rfl, hT, rfl, qx, qy⟩ := yy
    have e2 : c' = c := Option.some.inj (qx.symm.trans ec)
    have e3 : y' = y := Option.some.inj ((qy _ s').symm.trans ey)
    subst e2 e3
    have e4 : Same Ho' (upd Ho' T (.tup [.str ⟨#[c']⟩, y'])) := Same.new (z.free hT)
    obtain ⟨p1, p2⟩ := p
    dsimp only at e1 dy
    subst e1
    exact ⟨_, e4, fun _ z => z.alloc hT, .tup upd_same (.cons (.str _) (.cons (D.mo (D.mo dy e) e4) .nil))⟩
  · rw [List.length_zip] at hl2
    have := d.len
    rw [chS_len] at hl hl2
    omega
theorem k_srcZXl {x : Str} {ys : List β} (d' : LV K r0 Ho u ys) (hs : ∀ r ∈ r0, r ∈ rs) (z : Zs rs H Ho) (hl : (chS x).length = ys.length) (k : ∀ J, Trn K r0 J ((chS x).zip ys) Ho → R J H) : SrcZX K R [.str x, u] H := by
  obtain ⟨b, us, rfl, dd, s⟩ := id d'
  exact ⟨x, b, false, us, rfl, src_stay s (Same.refl _) z hs, k _ (trn_zipX dd (fun rs' H' Ho' e z sub => src_stay s e z sub) hl)⟩
theorem k_srcZXt {x : Str} {ys : Tp β} (d' : Z.D K Ho u ys) (z : Zs rs H Ho) (hl : (chS x).length = ys.l.length) (k : ∀ J, Trn K [] J ((chS x).zip ys.l) Ho → R J H) : SrcZX K R [.str x, u] H := by
  have d' : Dq K Ho u (.tuple (ys.l.map Py.toPy)) := d'
  cases d' with
  | tup hs ha =>
    exact ⟨x, _, true, _, rfl, SqT.of (z.le _ _ hs), k _ (trn_zipX (us := _) (show DL K Ho _ ys.l from ha) (fun rs' H' Ho' e z sub => SqT.of (z.le _ _ (e _ _ hs))) hl)⟩
end
end Z

/-! # a dict of the module with texts as keys; str(x), f"{x}", slices of data of any kind -/
namespace Z
open PySem PySem.Spec PyProof.Rows L2
def keyB : Value → Str → Bool
  | .str x _, z => decide (x = z)
  | _, _ => false
def valB : Value → V → Bool
  | .str x _, .str y => decide (x = y)
  | .ref a, .ref b => decide (a = b)
  | _, _ => false
def kvB : List DictEntry → List (Str × V) → Bool
  | [], [] => true
  | e :: es, p :: ps => keyB e.key p.1 && (valB e.val p.2 && kvB es ps)
  | _, _ => false
def kvL : List (Str × V) → Str → Option V
  | [], _ => none
  | p :: ps, z => if p.1 = z then some p.2 else kvL ps z
theorem keyB_ok {v : Value} {z : Str} (h : keyB v z = true) : ∃ t, v = .str z t := by
  cases v <;> first | (cases h; done) | skip
  exact ⟨_, by rw [of_decide_eq_true h]⟩
theorem valB_ok {v : Value} {u : V} (h : valB v u = true) : RelV u v := by
  cases v <;> cases u <;> first | (cases h; done) | skip
  · exact ⟨_, by rw [of_decide_eq_true h]⟩
  · have := of_decide_eq_true h
    subst this
    rfl
theorem kvB_find {z : Str} : ∀ {es : List DictEntry} {ps : List (Str × V)}, kvB es ps = true → match kvL ps z with
    | some u => ∃ e, es.find? (·.key.isStr z) = some e ∧ RelV u e.val
    | none => es.find? (·.key.isStr z) = none
  | [], [], _ => rfl
  | e :: es, p :: ps, h => by
    unfold kvB at h
    rw [Bool.and_eq_true, Bool.and_eq_true] at h
    obtain ⟨t, hk⟩ := keyB_ok h.1
    have hv := valB_ok h.2.1
    unfold kvL
    by_cases c : p.1 = z
    · rw [if_pos c]
      refine ⟨e, ?_, hv⟩
      rw [List.find?_cons_of_pos]
      rw [hk]
      show (p.1 == z) = true
      rw [c]; exact beq_self_eq_true z
    · rw [if_neg c]
      have ne : ¬ (e.key.isStr z) = true := by
        rw [hk]
        show ¬ (p.1 == z) = true
        intro q
        exact c (eq_of_beq q)
      have f : List.find? (fun x : DictEntry => x.key.isStr z) (e :: es) = es.find? (fun x => x.key.isStr z) := List.find?_cons_of_neg (p := fun x : DictEntry => x.key.isStr z) ne
      rw [f]
      exact kvB_find h.2.2
theorem kvB_ref : ∀ {es : List DictEntry} {ps : List (Str × V)}, kvB es ps = true → es.any (·.refKey) = false
  | [], [], _ => rfl
  | e :: es, p :: ps, h => by
    unfold kvB at h
    rw [Bool.and_eq_true, Bool.and_eq_true] at h
    obtain ⟨t, hk⟩ := keyB_ok h.1
    rw [List.any_cons, kvB_ref h.2.2, Bool.or_false]
    unfold DictEntry.refKey
    rw [hk]
structure DctK (K : PySem.W.Frag) (w : World) (a : Addr) (ps : List (Str × V)) : Prop where
  ex : ∃ es n, K.lookup a = some ⟨.type "dict", none, .dict es n, #[]⟩ ∧ PySem.W.KeysLit w.params es.toList ∧ kvB es.toList ps = true
  low : (a == sysModules) = false
section
variable {K : PySem.W.Frag} {w : World} {a : Addr} {ps : List (Str × V)} {z : Str} {u : V} {H Ho : Hp} {Q : VK} {γ : Type} {Φ : γ → Prop}
theorem DctK.get (h : DctK K w a ps) (e : kvL ps z = some u) : KDct K w a z u := by
  obtain ⟨⟨es, n, h1, h2, h3⟩, h4⟩ := h
  have f := kvB_find (z := z) h3
  rw [e] at f
  obtain ⟨en, h5, h6⟩ := f
  refine ⟨es, n, en.val, h1, h2, ?_, h6⟩
  unfold PySem.W.nsIn
  rw [h1]
  dsimp only
  rw [h5]
theorem DctK.miss (h : DctK K w a ps) (e : kvL ps z = none) : KMiss K w a z := by
  obtain ⟨⟨es, n, h1, h2, h3⟩, h4⟩ := h
  have f := kvB_find (z := z) h3
  rw [e] at f
  refine ⟨es, n, h1, h2, h4, ?_⟩
  unfold PySem.W.nsIn
  rw [h1]
  dsimp only
  rw [show es.toList.find? (·.key.isStr z) = none from f]
  dsimp only
  rw [if_neg (by rw [kvB_ref h3]; decide)]
theorem zix_kd {X : Cx} (hK : X.K = K) (hw : X.w = w) : IxR X (rIxD K w) := by
  subst hK hw
  exact ix_kdict
/-- the text that a written dict has -/
def kvS : List (Str × Str) → Str → Option Str
  | [], _ => none
  | p :: ps, z => if p.1 = z then some p.2 else kvS ps z
abbrev dctS (l : List (Str × Str)) : List (Str × V) := l.map fun p => (p.1, V.str p.2)
theorem kvL_S {l : List (Str × Str)} : kvL (dctS l) z = (kvS l z).map V.str := by
  induction l with
  | nil => rfl
  | cons p l ih =>
    show (if p.1 = z then some (V.str p.2) else kvL (dctS l) z) = Option.map V.str (if p.1 = z then some p.2 else kvS l z)
    by_cases c : p.1 = z
    · rw [if_pos c, if_pos c]; rfl
    · rw [if_neg c, if_neg c, ih]
theorem y_kdS {l : List (Str × Str)} {f : Str → W γ} (h : DctK K w a (dctS l)) (hw : (W.bind (W.opt (kvS l z)) f).run Φ) (k : ∀ t, (f t).run Φ → Q (.str t) H) : rIxD K w (.ref a) (.str z) H Q := by
  obtain ⟨t, e, hw⟩ := hw
  exact ⟨a, z, .str t, rfl, rfl, h.get (by rw [kvL_S, e]; rfl), k t hw⟩
end
/-! str(x), f"{x}" -/
section
variable {K : PySem.W.Frag} {H Ho : Hp} {v : V} {Q : VK} {γ : Type} {Φ : γ → Prop}
def pyStr : PyData → Option Str
  | .int i => some (strI i)
  | .str s => some s
  | _ => none
def strP (x : PyData) : W Str := W.guard (∀ i, x = .int i → CStr i) (W.opt (pyStr x))
def fmtP (x : PyData) : W Str := W.guard (∀ s : Str, x = .str s → s.length ≤ sizeLine) (strP x)
def rStrP : List V → Hp → VK → Prop := fun xs H Q => rStrI xs H Q ∨ ∃ y : Str, xs = [.str y] ∧ Q (.str y) H
theorem zstrP {X : Cx} : CallR X (.type "str") rStrP := by
  intro pins s σ H xs us Q I r h
  rcases h with h | ⟨y, e, q⟩
  · exact zstrI pins s σ H xs us Q I r h
  · exact SkE.call_str_str pins s σ H xs us Q I r ⟨y, e, q⟩
theorem y_strP {x : PyData} {f : Str → W γ} (d : Z.D K Ho v x) (hw : (W.bind (strP x) f).run Φ) (k : ∀ t, (f t).run Φ → Q (.str t) H) : rStrP [v] H Q := by
  obtain ⟨hg, t, e, hw⟩ := hw
  have d : Dq K Ho v x := d
  cases d with
  | int i => cases e; exact .inl ⟨i, rfl, hg i rfl, k _ hw⟩
  | str s => cases e; exact .inr ⟨_, rfl, k _ hw⟩
  | non => cases e
  | bl _ => cases e
  | lst _ _ => cases e
  | tup _ _ => cases e
  | ins _ _ _ => cases e
theorem y_fmtP {x : PyData} {f : Str → W γ} (d : Z.D K Ho v x) (hw : (W.bind (fmtP x) f).run Φ) (k : ∀ t, (f t).run Φ → Q (.str t) H) : FmtK Q v H := by
  obtain ⟨hl, hg, t, e, hw⟩ := hw
  have d : Dq K Ho v x := d
  cases d with
  | int i => cases e; exact .inr ⟨i, rfl, hg i rfl, k _ hw⟩
  | str s => cases e; exact .inl ⟨_, rfl, hl _ rfl, k _ hw⟩
  | non => cases e
  | bl _ => cases e
  | lst _ _ => cases e
  | tup _ _ => cases e
  | ins _ _ _ => cases e
end
/-! a tuple of data of any kind -/
instance : Fr PyData := ⟨some, fun d a h => by cases h; rfl⟩
instance {β : Type} [Py β] [Fr β] : Fr (Tp β) := ⟨fun d => match d with | .tuple xs => (frAll β xs).map Tp.mk | _ => none, fun d a h => by
  cases d <;> first | (cases h; done) | skip
  rename_i xs
  obtain ⟨as, h1, rfl⟩ := Option.map_eq_some_iff.mp h
  show PyData.tuple xs = .tuple (as.map Py.toPy)
  rw [frAll_ok h1]⟩
end Z

/-! # enumerate(xs, start=k); text.partition; d[k] or KeyError; a dict of defs; a tuple of a number and an own thing -/
namespace L2
open PySem PySem.Spec PyProof.Rows
theorem enumK_end {prog : Program} {w : World} {A : Around} {E : Value → Shared → Prop} {s : Shared} {e it l : Addr} {i : Nat} {c : Int} {items : Array Value} {old : Value} {Q : Option Value → Shared → Prop} (hh : A.handled = none)
    (he : IsEnum s.heap e it c old) (hit : s.heap.IsListIter it l i) (hl : s.heap.IsList l items) (hx : items[i]? = none)
    (hQ : ∀ h', Heap.ExtBut it s.heap h' → Q none { s with heap := h' }) : wpAny (model prog w) A (pyNext (.ref e)) Q E s := by
  have hT : s.TypeIs (.ref e) "enumerate" := ⟨_, he, rfl⟩
  unfold pyNext
  refine wpAny_bind (wpAny_attempt (wpAny_callSpecial?_slot (name := Str.ofString "__next__") hT F.slot_enumerate_next
    (wpAny_call_entry F.slot_enumerate_next hT F.entry_enumerate_next ?_ (F.args_enumerate_next_1 _))))
  show wpAny _ _ (field (.ref e) 2 >>= _) _ _ _
  refine wpAny_bind (wpAny_field he rfl (x := .ref it) rfl ?_)
  refine wpAny_bind (wpAny_nextOf_list_end (A := A.in1) hh hit hl hx fun h' x he' hx' => ?_)
  obtain ⟨o, ho, hc⟩ := hx'
  refine wpAny_bind (wpAny_isInstance (T := "StopIteration") (b := true) ⟨o, ho, hc⟩ isSubtype_stop ?_)
  exact wpAny_pure (hQ _ he')
/-- the list at a as it stands at each turn, each item in a new pair, numbered from k0 on -/
def Itek (K : PySem.W.Frag) (k0 : Int) (a : Addr) : It :=
  ⟨fun i H => ∃ (xs : List V) (x : V), SqL K H a xs ∧ xs[i]? = some x, fun i H v H' => ∃ T x, v = .ref T ∧ H T = none ∧ H' = upd H T (.tup [.int (k0 + (i : Nat)), x]) ∧ ∀ xs, SqL K H a xs → xs[i]? = some x, fun i H => ∃ xs : List V, SqL K H a xs ∧ xs.length ≤ i⟩
theorem turn_enumK {P : Program} {w : World} {K : PySem.W.Frag} {elts : List Expr} {kk : Nat} {tpos : Pos} (k0 : Int) (a e it : Addr) :
    Turn P w K (.Tuple elts kk tpos) (Itek K k0 a) [e, it] e (fun i h => (∃ old, IsEnum h e it (k0 + ((i : Nat) : Int)) old) ∧ h.IsListIter it a i ∧ e ≠ it ∧ a ≠ it ∧ e ≠ a) where
  mem := by simp
  obj := fun i h st b hb => by
    obtain ⟨⟨old, he⟩, ⟨o, ho, hc, hd⟩, _⟩ := st
    have e' : b = e ∨ b = it := by simpa using hb
    rcases e' with z | z
    · rw [z]; exact ⟨_, he, fun v q => nomatch q⟩
    · rw [z]; exact ⟨o, ho, fun v q => by rw [hd] at q; cases q⟩
  keep := fun i h h' st k => let ⟨⟨old, he⟩, hi, hne⟩ := st; ⟨⟨old, k e (by simp) _ he⟩, hi.at fun o q => k it (by simp) o q, hne⟩
  item := by
    intro X hP hw hK hc i pins s σ H E I hf st hg
    subst hP hw hK
    obtain ⟨⟨old, he⟩, hit, hne, han, hea⟩ := st
    obtain ⟨xs, x, hq, hx⟩ := hg
    obtain ⟨its, rv, p, hz⟩ := I.list hq
    obtain ⟨u, hu, ru⟩ := rv.get hx
    have hu' : its.toArray[i]? = some u := by simpa using hu
    have hel : e < s.heap.objs.size := Heap.lt_size he
    have hil : it < s.heap.objs.size := by obtain ⟨_, q, _⟩ := hit; exact Heap.lt_size q
    refine wpAny_pyNext_enum_itemC (Draws.list (A := X.A.in1) (I.ok.hd hc) it a han its.toArray) he ⟨hit, p.isList⟩ (by rw [List.size_toArray]; exact (List.getElem?_eq_some_iff.mp hu).1) hne (by simp [hne, hea]) fun x' h' tk hx' ho st' hT hsz hk => ?_
    have hit' : h'.IsListIter it a (i + 1) := st'.1
    obtain rfl : x' = u := Option.some.inj (hx'.symm.trans hu')
    refine ⟨_, rfl, wpAny_letOwnedTupleGo_enum (s := { s with heap := h', toks := tk + 1 }) ho fun h'' he' sb => ?_⟩
    have hT2 : h''.get? s.heap.objs.size = some { cls := .type "tuple", data := .seq #[.int (k0 + (i : Nat)) tk, x'] } := (sb.2 _ (Nat.ne_of_gt hel)).trans hT
    have new : ObjOk X.prog X.w (upd H s.heap.objs.size (.tup [.int (k0 + (i : Nat)), x])) h'' s.heap.objs.size (.tup [.int (k0 + (i : Nat)), x]) :=
      ⟨by show 2 ≤ sizeLine; decide, [.int (k0 + (i : Nat)) tk, x'], .cons ⟨_, rfl⟩ (.cons ru .nil), ⟨_, hT2, rfl, _, rfl⟩⟩
    have I1 : Inv X pins σ (upd H s.heap.objs.size (.tup [.int (k0 + (i : Nat)), x])) { s with heap := h'', toks := tk + 1 } :=
      I.turnedNew (ch := [e, it]) (fun b ob hb q => (sb.2 b (fun z => hb (by simp [z]))).trans (hk b ob (fun z => hb (by simp [z])) (fun z => hb (by simp [z])) q)) hf (Nat.le_refl _) new
    refine ⟨.ref s.heap.objs.size, _, I1, rfl, ⟨_, x, rfl, I.hok.fresh (Nat.le_refl _), rfl, fun ys hy => by rw [I.list_inj hy hq]; exact hx⟩, ⟨⟨x', ?_⟩, hit'.at fun o q => (sb.2 it (Ne.symm hne)).trans q, hne, han, hea⟩, fun b hb => ?_⟩
    · have e1 : k0 + ((i + 1 : Nat) : Int) = k0 + (i : Int) + 1 := by omega
      rw [e1]; exact he'
    · have hb' : b < s.heap.objs.size := by
        have e' : b = e ∨ b = it := by simpa using hb
        rcases e' with z | z
        · rw [z]; exact hel
        · rw [z]; exact hil
      rw [upd_ne (Nat.ne_of_lt hb')]
      exact (hf b hb).1
  done := by
    intro X hP hw hK hc i pins s σ H E I hf st hg
    subst hP hw hK
    obtain ⟨⟨old, he⟩, hit, hne, han, hea⟩ := st
    obtain ⟨xs, hq, hx⟩ := hg
    obtain ⟨its, rv, p, hz⟩ := I.list hq
    obtain ⟨f0, f1, f2, f3, f4, f5⟩ := hf it (by simp)
    have hl := rv.length
    exact enumK_end (I.ok.hd hc) he hit p.isList (Array.getElem?_eq_none (by rw [List.size_toArray]; omega)) fun h' eb => ⟨rfl, I.turned (t' := s.toks) (fun b o hb q => eb b o hb q) f0 f1 f3 f4 f5⟩
  self := fun A i s Q E st h => let ⟨⟨_, he⟩, _⟩ := st; wpAny_pyIter_enum he h
def iEnumK (K : PySem.W.Frag) (k0 : Int) (ta : TA) : TI := fun σ H R => ta σ H fun vs H1 => ∃ a xs, vs = [.ref a] ∧ SqL K H1 a xs ∧ R (Itek K k0 a) H1
theorem pi_enumK {X : Cx} {e : Expr} {ta : TA} {p pos tpos kp cp : Pos} {ci : Nat} {k0 : Int} {elts : List Expr} {kk : Nat} (hg : Gl X "enumerate") (hm : X.mg "enumerate" = none) (ha : PA X [e] ta) (h0 : -(2 ^ 63) ≤ k0) (h1 : k0 < 2 ^ 63)
    (he : backTo pos (starEach [e] X.env) = (false, eval e X.env) :: backTo pos (starEach [] X.env) := by rfl) (hpl : (backTo pos (starEach [e] X.env)).any (·.1) = false := by rfl) :
    PI X (.Tuple elts kk tpos) (.Call (.Name "enumerate" p) [e] [⟨some "start", .Constant (.int k0) ci cp, kp⟩] pos) (iEnumK X.K k0 ta) := by
  refine ⟨fun pins s σ H R I h => ?_⟩
  refine wpAny_Call_Name_kw (ld_blt I hg hm boot_enumerate (PyProof.Rows.callWith_typeKw (thn (ha.run pos pins s σ H _ I h) fun us s1 ⟨vs, H1, I1, r1, q1⟩ => ?_) he hpl))
  refine PyProof.Rows.kws_cons (wpAny_Constant_int (PyProof.Rows.kws_nil ?_))
  obtain ⟨a, xs, ex, hq, q⟩ := q1
  subst ex
  cases r1 with
  | cons r rr =>
    cases rr
    cases r
    obtain ⟨its, rv, p', hz⟩ := I1.list hq
    show wpAny _ _ (call (.type "enumerate") [Value.ref a] [(Str.ofString "start", .int k0 s1.toks)]) _ _ { s1 with toks := s1.toks + 1 }
    refine enum_begins_start (s := { s1 with toks := s1.toks + 1 }) (begins_list a its.toArray) p'.isList h0 h1 fun h' he hit hsz hk => wpAny_pyIter_enum he ?_
    have I2 : Inv X pins σ H1 { s1 with toks := s1.toks + 1, heap := h' } := I1.kept (t' := s1.toks + 1) hk
    refine ⟨s1.heap.objs.size + 1, [s1.heap.objs.size + 1, s1.heap.objs.size], _, _, H1, rfl, I2, turn_enumK k0 a (s1.heap.objs.size + 1) s1.heap.objs.size, ⟨⟨.none, by rw [show k0 + ((0 : Nat) : Int) = k0 by omega]; exact he⟩, ⟨_, hit, rfl, rfl⟩, Nat.succ_ne_self _, Nat.ne_of_lt p'.lt, Ne.symm (Nat.ne_of_lt (Nat.lt_succ_of_lt p'.lt))⟩, fun b hb => ?_, q⟩
    have e' : b = s1.heap.objs.size + 1 ∨ b = s1.heap.objs.size := by simpa using hb
    have hle : s1.heap.objs.size ≤ b := by
      rcases e' with z | z
      · rw [z]; exact Nat.le_add_right _ _
      · rw [z]; exact Nat.le_refl _
    exact I1.fpOk hle (I1.hok.fresh hle)
/-- a local name that holds one of three defs, called -/
def tCv3 (i : Nat) (f1 f2 f3 : Addr) (sp1 sp2 sp3 : Sp) (t : TA) : TE := fun σ H Q => (σ[i]? = some (some (.ref f1)) ∧ t σ H fun vs H1 => sp1 vs H1 Q E0) ∨ (σ[i]? = some (some (.ref f2)) ∧ t σ H fun vs H1 => sp2 vs H1 Q E0) ∨ (σ[i]? = some (some (.ref f3)) ∧ t σ H fun vs H1 => sp3 vs H1 Q E0)
theorem pe_cv3 {X : Cx} {i j k1 k2 k3 : Nat} {x y1 y2 y3 : Str} {p pos : Pos} {e : Expr} {es : List Expr} {t : TA} {f1 f2 f3 : Addr} {fd1 fd2 fd3 : FuncData} {ps1 ps2 ps3 : List Str} {sp1 sp2 sp3 : Sp} {P : Program} {w : World} {K : PySem.W.Frag} {mg : Str → Option Value} {base : Heap}
    (eP : X.prog = P) (ew : X.w = w) (eK : X.K = K) (em : X.mg = mg) (eb : X.base = base) (c1 : Z.Cal P w K mg base CX0 y1 ps1 k1 sp1 f1 fd1) (c2 : Z.Cal P w K mg base CX0 y2 ps2 k2 sp2 f2 fd2) (c3 : Z.Cal P w K mg base CX0 y3 ps3 k3 sp3 f3 fd3) (hr : Room j X.A) (hk1 : k1 ≤ j) (hk2 : k2 ≤ j) (hk3 : k3 ≤ j) (hN : X.N[i]? = some x) (hv : Vis X.env.scope x) (ha : PA X (e :: es) t)
    (hd : (x == ("__debug__" : Str)) = false := by decide) (hcd : (x == ("__classdict__" : Str)) = false := by decide)
    (he : starEach (e :: es) X.env = (false, eval e X.env) :: starEach es X.env := by rfl) (hpl : (backTo pos (starEach es X.env)).any (·.1) = false := by rfl) :
    PE X (.Call (.Name x p) (e :: es) [] pos) (tCv3 i f1 f2 f3 sp1 sp2 sp3 t) := by
  subst eP ew eK em eb
  refine ⟨fun pins s σ H Q I h => ?_⟩
  have go : ∀ {k : Nat} {y : Str} {ps : List Str} {f : Addr} {fd : FuncData} {sp : Sp}, Z.Cal X.prog X.w X.K X.mg X.base CX0 y ps k sp f fd → k ≤ j → σ[i]? = some (some (.ref f)) → (t σ H fun vs H1 => sp vs H1 Q E0) →
      wpAny (model X.prog X.w) X.A (eval (.Call (.Name x p) (e :: es) [] pos) X.env) (EP X pins σ Q) X.xe s := fun {k y ps f fd sp} c hk hs ht => by
    refine wpAny_Call_Name_kw (thn ((pe_var (pos := p) hN hv hd hcd).run pins s σ H (fun v H1 => v = .ref f ∧ H1 = H) I ⟨.ref f, hs, rfl, rfl⟩) fun u s1 ⟨v, H1, I1, r1, q1⟩ => ?_)
    obtain ⟨rfl, rfl⟩ := q1
    cases r1
    refine PySem.W.callWith_K (h₀ := X.base) I.ok.mod.kin c.kp (thn (ha.run pos pins s1 σ _ _ I1 ht) fun us s2 ⟨vs, H2, I2, r, q⟩ => ⟨I2.kIn, ?_⟩) he hpl
    exact run_fn c.ok (hr.mono hk) c.b .nil pass0 I2 r (by rw [List.append_nil]; exact q)
  rcases h with ⟨h1, ht⟩ | ⟨h1, ht⟩ | ⟨h1, ht⟩
  · exact go c1 hk1 h1 ht
  · exact go c2 hk2 h1 ht
  · exact go c3 hk3 h1 ht
end L2
namespace Z
open PySem PySem.Spec PyProof.Rows L2
section
variable {X : Cx} {K : PySem.W.Frag} {H Ho : Hp} {σ : L2.St} {R : It → Hp → Prop} {ts : TA} {r0 rs : List (Addr × HO)} {α β : Type} [Py α] [Py β] {v u : V} {k0 : Int}
def SrcEK (K : PySem.W.Frag) (k0 : Int) (R : It → Hp → Prop) : List V → Hp → Prop := fun vs H1 => ∃ a xs, vs = [.ref a] ∧ SqL K H1 a xs ∧ R (Itek K k0 a) H1
theorem zpi_enumK {e : Expr} {ta : TA} {p pos tpos kp cp : Pos} {ci : Nat} {elts : List Expr} {kk : Nat} (hK : X.K = K) (hg : Gl X "enumerate") (hm : X.mg "enumerate" = none) (ha : PA X [e] ta) (h0 : -(2 ^ 63) ≤ k0) (h1 : k0 < 2 ^ 63)
    (he : backTo pos (starEach [e] X.env) = (false, eval e X.env) :: backTo pos (starEach [] X.env) := by rfl) (hpl : (backTo pos (starEach [e] X.env)).any (·.1) = false := by rfl) :
    PI X (.Tuple elts kk tpos) (.Call (.Name "enumerate" p) [e] [⟨some "start", .Constant (.int k0) ci cp, kp⟩] pos) (iEnumK K k0 ta) := hK ▸ pi_enumK hg hm ha h0 h1 he hpl
theorem k_iEnumK (k : ts σ H (SrcEK K k0 R)) : iEnumK K k0 ts σ H R := k
theorem trn_enumK {a : Addr} {xs : List α} {v : V} (h : LV K r0 Ho v xs) (hv : v = .ref a) : Trn K r0 (Itek K k0 a) (enumS k0 xs) Ho := by
  intro i rs' H' Ho' e z sub
  obtain ⟨a', vs, rfl, d, s⟩ := h
  cases hv
  have sa : SqL K H' a vs := src_stay s e z sub
  refine ⟨fun p hp => ?_, fun hl => ⟨vs, sa, ?_⟩⟩
  · obtain ⟨hx, hy⟩ := List.getElem?_zip_eq_some.mp hp
    obtain ⟨_, hx⟩ := rng_get hx
    obtain ⟨y, ey, dy⟩ := d.get hy
    refine ⟨⟨vs, y, sa, ey⟩, fun t H'' yy => ?_⟩
    obtain ⟨T, y', rfl, hT, rfl, qy⟩ := yy
    have e2 : y' = y := Option.some.inj ((qy _ sa).symm.trans ey)
    subst e2
    have e3 : Same Ho' (upd Ho' T (.tup [.int (k0 + (i : Nat)), y'])) := Same.new (z.free hT)
    obtain ⟨p1, p2⟩ := p
    dsimp only at hx dy
    subst hx
    exact ⟨_, e3, fun _ z => z.alloc hT, .tup upd_same (.cons (.int _) (.cons (D.mo (D.mo dy e) e3) .nil))⟩
  · have : (enumS k0 xs).length = xs.length := by
      unfold enumS
      rw [List.length_zip, rng_len]
      omega
    rw [d.len]
    omega
theorem k_srcEK {xs : List α} (d : LV K r0 Ho v xs) (hs : ∀ r ∈ r0, r ∈ rs) (z : Zs rs H Ho) (k : ∀ J, Trn K r0 J (enumS k0 xs) Ho → R J H) : SrcEK K k0 R [v] H := by
  obtain ⟨a', vs, rfl, dd, s⟩ := id d
  exact ⟨a', vs, rfl, src_stay s (Same.refl _) z hs, k _ (trn_enumK d rfl)⟩
end
/-! text.partition -/
def rPart : V → List V → Hp → VK → Prop := fun x xs H Q => ∃ a b, x = .str a ∧ xs = [.str b] ∧ (b.length == 0) = false ∧ a.length ≤ sizeLine ∧
  ∀ p, H p = none → Q (.ref p) (upd H p (.tup [.str (Txt.partition a b).1, .str (Txt.partition a b).2.1, .str (Txt.partition a b).2.2]))
theorem zmt_part {X : Cx} : MtR X "str.partition" rPart := mt_partition
def PartG (a b : Str) : Prop := (b.length == 0) = false ∧ a.length ≤ sizeLine
section
variable {K : PySem.W.Frag} {w : World} {H Ho : Hp} {Q : VK} {γ β1 β2 β3 α β : Type} [Py α] [Py β] [Py β1] [Py β2] [Py β3] {Φ : γ → Prop} {R g : Grp} {σ : L2.St} {D : Ends} {u1 : TS} {v u : V}
def parts (a b : Str) : P3 Str Str Str := ⟨(Txt.partition a b).1, (Txt.partition a b).2.1, (Txt.partition a b).2.2⟩
theorem y_ptn {a b : Str} (z : Zs R H Ho) (hg : PartG a b) (k : ∀ p H' Ho', Same Ho Ho' → Zs R H' Ho' → Z.D K Ho' (.ref p) (parts a b) → Q (.ref p) H') : rPart (.str a) [.str b] H Q :=
  ⟨a, b, rfl, rfl, hg.1, hg.2, fun p hp => k p _ _ (Same.new (z.free hp)) (z.alloc hp) (.tup upd_same (.cons (.str _) (.cons (.str _) (.cons (.str _) .nil))))⟩
/-! x not in (..) -/
theorem zop_notInT {X : Cx} (hK : X.K = K) : OpR X (compareOp .NotIn) (rIn K true) := hK ▸ op_notIn_seq
theorem y_notInT {x : α} {a : Str} {ss : List Str} (d : Z.D K Ho u x) (hx : toPy x = .tuple (ss.map .str)) (z : Zs R H Ho) (k : Q (.bl (!decide (a ∈ ss))) H) : rIn K true (.str a) u H Q := by
  have d : Dq K Ho u (toPy x) := d
  rw [hx] at d
  cases d with
  | tup hs ha =>
    rw [dq_strs ha] at hs
    refine ⟨_, _, rfl, .inr (SqT.of (z.le _ _ hs)), rfl, flat_strs, ?_⟩
    rw [if_pos rfl, inV_strs]
    exact k
/-! try: x = d[k] except KeyError: .. -/
theorem boot_KE : bootBuiltins ("KeyError" : Str) = some (.type "KeyError") := by decide +kernel
theorem y_tryKD {c : Value} {tb : WX → TS} {ts : Addr → Value → Option Addr → TS} {Wout : WX} (h : tb (wOnly K c ts Wout { D with nx := u1 D }) { D with nx := u1 D } σ H) : tSeq (tTryOnly K c tb ts Wout) u1 D σ H := h
def KdX (K : PySem.W.Frag) (w : World) (W : WX) (σ : L2.St) (Q : VK) (x y : V) (H2 : Hp) : Prop := ∃ (p : Addr) (z : Str), x = .ref p ∧ y = .str z ∧ ((∃ v, KDct K w p z v ∧ Q v H2) ∨ (KMiss K w p z ∧ ∀ d, W (.type "KeyError") d σ H2))
theorem y_ixDX {W : WX} {ta tb : TE} (k : ta σ H fun x H1 => tb σ H1 fun y H2 => KdX K w W σ Q x y H2) : tIxDX K w W ta tb σ H Q := k
theorem zpe_ixDX {X : Cx} {W : WX} {a b : Expr} {ta tb : TE} {pos : Pos} (hK : X.K = K) (hw : X.w = w) (hc : X.calm = true) (tk : Takes X W) (ha : PE X a ta) (hb : PE X b tb) (hs : PlainIx b) : PE X (.Subscript a b pos) (tIxDX K w W ta tb) := by
  subst hK hw
  exact pe_ixDX hc tk ha hb hs
theorem y_kdX {a : Addr} {z : Str} {l : List (Str × Str)} {f : Str → W γ} {g : W γ} {ts : Addr → Value → Option Addr → TS} {Wout : WX} (h : DctK K w a (dctS l)) (hw : (if (kvS l z).isSome = true then W.bind (W.opt (kvS l z)) f else g).run Φ)
    (k1 : ∀ t, (f t).run Φ → Q (.str t) H) (k2 : g.run Φ → ∀ d a', H a' = none → ts a' (.type "KeyError") d D σ H) : KdX K w (wOnly K (.type "KeyError") ts Wout D) σ Q (.ref a) (.str z) H := by
  refine ⟨a, z, rfl, rfl, ?_⟩
  cases e : kvS l z with
  | some t =>
    rw [e] at hw
    obtain ⟨t', e', hw⟩ := hw
    cases e'
    exact .inl ⟨.str t, h.get (by rw [kvL_S, e]; rfl), k1 t hw⟩
  | none =>
    rw [e] at hw
    exact .inr ⟨h.miss (by rw [kvL_S, e]; rfl), fun d => ⟨true, exm_KE, fun _ a' ha => k2 hw d a' ha, fun q => nomatch q⟩⟩
/-! a dict of defs -/
def keyIx : List Str → Str → Option Nat
  | [], _ => none
  | s :: ss, z => if s = z then some 0 else (keyIx ss z).map (· + 1)
abbrev dctF (ns : List Str) (fs : List Addr) : List (Str × V) := ns.zipWith (fun s f => (s, V.ref f)) fs
/-- one of these defs -/
def FnV (fs : List Addr) (i : Nat) (v : V) : Prop := ∃ a, fs[i]? = some a ∧ v = .ref a
theorem keyIx_ok {z : Str} : ∀ {ns : List Str} {fs : List Addr} {i : Nat}, ns.length = fs.length → keyIx ns z = some i → ∃ f, fs[i]? = some f ∧ kvL (dctF ns fs) z = some (.ref f)
  | [], _, _, _, h => by cases h
  | s :: ns, [], _, hl, _ => by cases hl
  | s :: ns, f :: fs, i, hl, h => by
    unfold keyIx at h
    show ∃ f', (f :: fs)[i]? = some f' ∧ (if s = z then some (V.ref f) else kvL (dctF ns fs) z) = some (.ref f')
    by_cases c : s = z
    · rw [if_pos c] at h
      cases h
      exact ⟨f, rfl, if_pos c⟩
    · rw [if_neg c] at h
      obtain ⟨j, h', rfl⟩ := Option.map_eq_some_iff.mp h
      obtain ⟨f', h1, h2⟩ := keyIx_ok (Nat.succ.inj hl) h'
      exact ⟨f', h1, (if_neg c).trans h2⟩
theorem y_kdF {a : Addr} {z : Str} {ns : List Str} {fs : List Addr} {f : Nat → W γ} (h : DctK K w a (dctF ns fs)) (hl : ns.length = fs.length) (hw : (W.bind (W.opt (keyIx ns z)) f).run Φ) (k : ∀ i v, FnV fs i v → (f i).run Φ → Q v H) : rIxD K w (.ref a) (.str z) H Q := by
  obtain ⟨i, e, hw⟩ := hw
  obtain ⟨f', h1, h2⟩ := keyIx_ok hl e
  exact ⟨a, z, .ref f', rfl, rfl, h.get h2, k i _ ⟨f', h1, rfl⟩ hw⟩
/-- what the def at i tells, as data of any kind -/
def rd3 (i : Nat) (m1 : W β1) (m2 : W β2) (m3 : W β3) : W PyData := match i with
  | 0 => W.bind m1 fun x => W.ret (toPy x)
  | 1 => W.bind m2 fun x => W.ret (toPy x)
  | 2 => W.bind m3 fun x => W.ret (toPy x)
  | _ => W.bad
def SpD (K : PySem.W.Frag) (sp : Sp) (m : α → W β) : Prop := ∀ {vs : List V} {H : Hp} {Q : VK} {E : Value → Option Addr → Hp → Prop}, (∃ (amb : Grp) (Ho : Hp) (v0 : V) (x0 : α), vs = [v0] ∧ Zs amb H Ho ∧ Z.D K Ho v0 x0 ∧ (m x0).run fun r => ∀ v H' Ho', Same Ho Ho' → Zs amb H' Ho' → Z.D K Ho' v r → Q v H') → sp vs H Q E
def Cv3K (i : Nat) (sp1 sp2 sp3 : Sp) (Q : VK) (vs : List V) (H1 : Hp) : Prop := match i with
  | 0 => sp1 vs H1 Q E0
  | 1 => sp2 vs H1 Q E0
  | 2 => sp3 vs H1 Q E0
  | _ => False
theorem y_cv3 {i j : Nat} {f1 f2 f3 : Addr} {sp1 sp2 sp3 : Sp} {t : TA} (d : FnV [f1, f2, f3] i v) (hs : σ[j]? = some (some v)) (k : t σ H fun vs H1 => Cv3K i sp1 sp2 sp3 Q vs H1) : tCv3 j f1 f2 f3 sp1 sp2 sp3 t σ H Q := by
  obtain ⟨a, h1, rfl⟩ := d
  unfold tCv3
  rw [hs]
  rcases i with _ | _ | _ | i
  · cases h1; exact .inl ⟨rfl, k⟩
  · cases h1; exact .inr (.inl ⟨rfl, k⟩)
  · cases h1; exact .inr (.inr ⟨rfl, k⟩)
  · cases h1
theorem y_cv3k {i : Nat} {f1 f2 f3 : Addr} {sp1 sp2 sp3 : Sp} {x : α} {m1 : α → W β1} {m2 : α → W β2} {m3 : α → W β3} {f : PyData → W γ} (d : FnV [f1, f2, f3] i v) (s1 : SpD K sp1 m1) (s2 : SpD K sp2 m2) (s3 : SpD K sp3 m3)
    (z : Zs R H Ho) (dx : Z.D K Ho u x) (hw : (W.bind (rd3 i (m1 x) (m2 x) (m3 x)) f).run Φ) (k : ∀ y v' H' Ho', Same Ho Ho' → Zs R H' Ho' → Z.D K Ho' v' (y : PyData) → (f y).run Φ → Q v' H') : Cv3K i sp1 sp2 sp3 Q [u] H := by
  obtain ⟨a, h1, rfl⟩ := d
  have go : ∀ {β' : Type} [Py β'] {sp : Sp} {m : α → W β'}, SpD K sp m → (W.bind (W.bind (m x) fun x => W.ret (toPy x)) f).run Φ → sp [u] H Q E0 := fun {β'} _ {sp m} s hw =>
    s ⟨R, Ho, u, x, rfl, z, dx, W.mono _ _ _ (fun r hr v' H' Ho' e z' d' => k (toPy r) v' H' Ho' e z' d' hr) hw⟩
  rcases i with _ | _ | _ | i
  · exact go s1 hw
  · exact go s2 hw
  · exact go s3 hw
  · cases h1
theorem tp_py {x : Tp α} (d : Z.D K Ho v x) : Z.D K Ho v (⟨x.l.map toPy⟩ : Tp PyData) := by
  show Dq K Ho v (.tuple ((x.l.map toPy).map toPy))
  rw [List.map_map]
  exact d
/-! xs[i] = x, both one's own -/
theorem RowO.put {β : Type} {P : V → β → Grp → Prop} : ∀ {vs : List V} {xs : List β} {gs : List Grp} {j : Nat} {v : V} {x : β} {g : Grp}, RowO P vs xs gs → P v x g → RowO P (vs.set j v) (xs.set j x) (gs.set j g)
  | _, _, _, _, _, _, _, .nil, _ => .nil
  | _, _, _, 0, _, _, _, .cons a t, p => .cons p t
  | _, _, _, j + 1, _, _, _, .cons a t, p => .cons a (t.put p)
theorem flat_sub : ∀ {gs : List Grp} {j : Nat}, (gs.set j []).flatten.Sublist gs.flatten
  | [], _ => List.Sublist.refl _
  | g :: gs, 0 => by
    show ([] ++ gs.flatten).Sublist (g ++ gs.flatten)
    exact List.sublist_append_right g gs.flatten
  | g :: gs, j + 1 => by
    show (g ++ (gs.set j []).flatten).Sublist (g ++ gs.flatten)
    exact (flat_sub (gs := gs) (j := j)).append_left g
theorem g_stiO {P : OwnPred β} {xs : List β} {x : β} {i : Int} {gi : Grp} {QH : Hp → Prop} {f : List β → W γ} (z : Zs (gi ++ (g ++ R)) H Ho) (o : OLo P K Ho v xs g) (ox : P K Ho u x gi) (hw : (W.bind (sti xs i x) f).run Φ)
    (k : ∀ xs' g' H', Zs (g' ++ R) H' Ho → OLo P K Ho v xs' g' → (f xs').run Φ → QH H') : rSetL v (.int i) u H QH := by
  obtain ⟨p, vs, gs, rfl, r, rfl⟩ := o
  obtain ⟨j, ej, hw⟩ := hw
  have z1 : Zs ((p, HO.lst vs) :: (gi ++ (gs.flatten ++ R))) H Ho := z.perm List.perm_middle
  refine ⟨p, vs, i, j, rfl, rfl, z1.head, by rw [r.len.1]; exact ej, k _ ((p, HO.lst (vs.set j u)) :: (gs.set j gi).flatten) _ ?_ ⟨p, _, _, rfl, r.put ox, rfl⟩ hw⟩
  have hj : j < gs.length := by
    have h2 := r.len
    unfold ixN at ej
    split at ej
    · split at ej
      · cases ej; omega
      · cases ej
    · split at ej
      · cases ej; omega
      · cases ej
  have z2 : Zs ((p, HO.lst (vs.set j u)) :: (gi ++ ((gs.set j []).flatten ++ R))) _ Ho := z1.put.sub (List.Sublist.cons_cons _ (List.Sublist.append_left (List.Sublist.append_right flat_sub R) gi))
  refine z2.perm (List.Perm.cons _ ?_)
  rw [← List.append_assoc]
  exact (flat_set (List.getElem?_eq_getElem hj)).symm.append_right _
/-! a tuple of a number and a thing of one's own -/
def OM (P : OwnPred β) : OwnPred (Int × β) := fun K Ho v x g => ∃ u, TupAt Ho v (.int x.1) u ∧ P K Ho u x.2 g
theorem OM.mo {P : OwnPred β} [OwnD P] {K : PySem.W.Frag} {Ho Ho' : Hp} {v : V} {x : Int × β} {g : Grp} (h : OM P K Ho v x g) (e : Same Ho Ho') : OM P K Ho' v x g := by
  obtain ⟨u, t, p⟩ := h
  exact ⟨u, t.mo e, OwnD.mo p e⟩
theorem OM.mk {P : OwnPred β} {K : PySem.W.Frag} {Ho : Hp} {v u : V} {i : Int} {x : β} {g : Grp} (t : TupAt Ho v (.int i) u) (d : P K Ho u x g) : OM P K Ho v (i, x) g := ⟨u, t, d⟩
instance {P : OwnPred β} [OwnD P] : OwnD (OM P) where
  mo := OM.mo
  rd := fun h e m => by
    obtain ⟨u, t, p⟩ := h
    exact TupAt.dd (t.mo e) (.int _) (OwnD.rd p e m)
end
end Z

/-! # Ym: what the computations promise, in plain Lean -/
namespace Z
open PySem L2
section
variable {α β γ S ρ : Type}
theorem run_bind {c : W α} {f : α → W β} {Φ : β → Prop} : (W.bind c f).run Φ = c.run fun a => (f a).run Φ := propext ⟨fun h => h, fun h => h⟩
theorem run_bind2 {c : W (α × β)} {f : α → β → W γ} {Φ : γ → Prop} : (W.bind2 c f).run Φ = c.run fun r => (f r.1 r.2).run Φ := propext ⟨fun h => h, fun h => h⟩
theorem run_rt {a : α} {Φ : α → Prop} : (W.ret a).run Φ = Φ a := propext ⟨fun h => h, fun h => h⟩
theorem run_guard {p : Prop} {c : W α} {Φ : α → Prop} : (W.guard p c).run Φ = (p ∧ c.run Φ) := propext ⟨fun h => h, fun h => h⟩
theorem run_opt {o : Option α} {Φ : α → Prop} : (W.opt o).run Φ = ∃ a, o = some a ∧ Φ a := propext ⟨fun h => h, fun h => h⟩
theorem run_ite {b : Bool} {x y : W α} {Φ : α → Prop} : (W.ite b x y).run Φ = ((b = true → x.run Φ) ∧ (b = false → y.run Φ)) := propext ⟨fun h => h, fun h => h⟩
theorem run_if {b : Bool} {x y : W α} {Φ : α → Prop} : (W.ite b x y).run Φ = (if b = true then x.run Φ else y.run Φ) := by
  rw [run_ite]; cases b <;> simp
theorem run_mono {c : W α} {Φ Φ' : α → Prop} (h : c.run Φ) (k : ∀ a, Φ a → Φ' a) : c.run Φ' := c.mono _ _ k h
theorem atI_some {xs : List α} {i : Int} (h0 : 0 ≤ i) (h : i < xs.length) : ∃ a, a ∈ xs ∧ atI xs i = some a := by
  obtain ⟨j, rfl⟩ : ∃ j : Nat, i = j := ⟨i.toNat, by omega⟩
  have hj : j < xs.length := by omega
  exact ⟨xs[j], List.getElem_mem hj, atI_nat (List.getElem?_eq_getElem hj)⟩
theorem atI_get' {xs : List α} {i : Int} {a : α} (h0 : 0 ≤ i) (h : xs[i.toNat]? = some a) : atI xs i = some a := by
  obtain ⟨j, rfl⟩ : ∃ j : Nat, i = j := ⟨i.toNat, by omega⟩
  exact atI_nat (by simpa using h)
theorem ixN_nat' {n : Nat} {i : Int} (h0 : 0 ≤ i) (h : i < n) : ixN n i = some i.toNat := by
  unfold ixN
  rw [if_pos h0, if_pos h]
theorem forL_wp (Inv : Nat → S → Prop) {xs : List α} {s : S} {f : α → S → W S} {Φ : S → Prop} (h0 : Inv 0 s) (step : ∀ i x s, xs[i]? = some x → Inv i s → (f x s).run (Inv (i + 1))) (k : ∀ s, Inv xs.length s → Φ s) : (W.forL xs s f).run Φ := by
  induction xs generalizing s Inv with
  | nil => exact k s h0
  | cons x xs ih =>
    show (f x s).run (fun s' => (W.forL xs s' f).run Φ)
    refine run_mono (step 0 x s rfl h0) fun s' h' => ?_
    exact ih (fun i => Inv (i + 1)) h' (fun i y s hy hi => step (i + 1) y s (by simpa using hy) hi) fun s hs => k s hs
theorem forC_wp (Inv : Nat → S → Prop) {xs : List α} {s : S} {f : α → S → W (Ctl ρ S)} {Φ : Ctl ρ S → Prop} (h0 : Inv 0 s)
    (step : ∀ i x s, xs[i]? = some x → Inv i s → (f x s).run (CtlP (Inv (i + 1)) (fun s => Φ (.nx s)) (fun r => Φ (.rt r)))) (k : ∀ s, Inv xs.length s → Φ (.nx s)) : (W.forC xs s f).run Φ := by
  induction xs generalizing s Inv with
  | nil => exact k s h0
  | cons x xs ih =>
    show (W.bind (f x s) _).run Φ
    rw [run_bind]
    refine run_mono (step 0 x s rfl h0) fun c hc => ?_
    cases c with
    | nx s' => exact ih (fun i => Inv (i + 1)) hc (fun i y s hy hi => step (i + 1) y s (by simpa using hy) hi) fun s hs => k s hs
    | bk s' => exact hc
    | rt r => exact hc
theorem comp_wp {xs : List α} {acc : List β} {ct : α → W Bool} {cf : α → W β} (t : α → Bool) (f : α → β) {Φ : List β → Prop} (ht : ∀ x ∈ xs, ∀ Ψ : Bool → Prop, Ψ (t x) → (ct x).run Ψ) (hf : ∀ x ∈ xs, t x = true → ∀ Ψ : β → Prop, Ψ (f x) → (cf x).run Ψ)
    (k : Φ (acc ++ (xs.filter t).map f)) : (comp xs acc ct cf).run Φ := by
  induction xs generalizing acc with
  | nil =>
    simp at k
    exact k
  | cons x xs ih =>
    refine ht x List.mem_cons_self _ ⟨fun e => ?_, fun e => ?_⟩
    · refine hf x List.mem_cons_self e _ (ih (fun y hy => ht y (List.mem_cons_of_mem _ hy)) (fun y hy => hf y (List.mem_cons_of_mem _ hy)) ?_)
      simpa [List.filter_cons, e] using k
    · refine ih (fun y hy => ht y (List.mem_cons_of_mem _ hy)) (fun y hy => hf y (List.mem_cons_of_mem _ hy)) ?_
      simpa [List.filter_cons, e] using k
theorem compG_wp {xs : List α} {ct : α → W Bool} {cf : α → W β} (t : α → Bool) (f : α → β) {Φ : List β → Prop} (hl : xs.length ≤ sizeLine) (ht : ∀ x ∈ xs, ∀ Ψ : Bool → Prop, Ψ (t x) → (ct x).run Ψ) (hf : ∀ x ∈ xs, t x = true → ∀ Ψ : β → Prop, Ψ (f x) → (cf x).run Ψ)
    (k : Φ ((xs.filter t).map f)) : (compG xs ct cf).run Φ := ⟨hl, comp_wp t f ht hf (by simpa using k)⟩
theorem small {n : Nat} (h : n ≤ 100000) : n ≤ sizeLine := Nat.le_trans h (by decide)
theorem small' {n : Nat} (h : n ≤ 100000) : n < sizeLine := Nat.lt_of_le_of_lt h (by decide)
theorem apd_wp {xs : List α} {x : α} {Φ : List α → Prop} (h : xs.length ≤ 100000) (k : Φ (xs ++ [x])) : (apd xs x).run Φ := ⟨small' h, k⟩
theorem sti_wp {xs : List α} {i : Int} {y : α} {Φ : List α → Prop} (h0 : 0 ≤ i) (h : i < xs.length) (k : Φ (xs.set i.toNat y)) : (sti xs i y).run Φ := ⟨i.toNat, ixN_nat' h0 h, k⟩
/-! slices -/
theorem sIx_none (n d : Nat) : HT.sIx n d none = d := HT.sIx_none n d
theorem cut_to {xs : List α} {k : Int} (h0 : 0 ≤ k) : cut xs none (some k) = xs.take k.toNat := by
  obtain ⟨j, rfl⟩ : ∃ j : Nat, k = j := ⟨k.toNat, by omega⟩
  unfold cut
  rw [HT.sIx_none, HT.sIx_nat]
  simp only [List.drop_zero, Nat.sub_zero, Int.toNat_natCast]
  by_cases h : j ≤ xs.length
  · rw [Nat.min_eq_left h]
  · rw [Nat.min_eq_right (by omega), List.take_of_length_le (Nat.le_refl _), List.take_of_length_le (by omega)]
theorem cut_init {xs : List α} : cut xs none (some (-1)) = xs.dropLast := by
  unfold cut
  rw [HT.sIx_none]
  have e : HT.sIx xs.length xs.length (some (-1)) = xs.length - 1 := by
    simp only [HT.sIx]
    rw [if_pos (by decide)]
    omega
  rw [e]
  simp [List.dropLast_eq_take]
theorem cut_from {xs : List α} {k : Int} (h0 : 0 ≤ k) : cut xs (some k) none = xs.drop k.toNat := by
  obtain ⟨j, rfl⟩ : ∃ j : Nat, k = j := ⟨k.toNat, by omega⟩
  unfold cut
  rw [HT.sIx_none, HT.sIx_nat]
  simp only [Int.toNat_natCast]
  by_cases h : j ≤ xs.length
  · rw [Nat.min_eq_left h, List.take_of_length_le (by simp)]
  · rw [Nat.min_eq_right (by omega)]
    simp
    omega
end
/-! ### equal data -/
/-- data that == tells apart as Lean does, and that may be compared -/
class Eqv (α : Type) [Py α] where
  eqv : ∀ x y : α, PyData.eqv (toPy x) (toPy y) = true ↔ x = y
  d : Nat
  shape : ∀ x : α, (toPy x).depth ≤ d
theorem eqvAll_map {α : Type} [Py α] [Eqv α] : ∀ xs ys : List α, PyData.eqvAll (xs.map Py.toPy) (ys.map Py.toPy) = true ↔ xs = ys
  | [], [] => by simp [PyData.eqvAll]
  | [], y :: ys => by simp [PyData.eqvAll]
  | x :: xs, [] => by simp [PyData.eqvAll]
  | x :: xs, y :: ys => by
    have h1 := Eqv.eqv x y
    have h2 := eqvAll_map xs ys
    simp only [List.map_cons, PyData.eqvAll, Bool.and_eq_true, List.cons.injEq]
    rw [← h1, ← h2]
theorem depthAll_map {α : Type} [Py α] [Eqv α] : ∀ xs : List α, PyData.depthAll (xs.map Py.toPy) ≤ Eqv.d α
  | [] => by simp [PyData.depthAll]
  | x :: xs => by
    have h1 := Eqv.shape x
    have h2 := depthAll_map xs
    simp only [List.map_cons, PyData.depthAll]
    exact Nat.max_le.mpr ⟨h1, h2⟩
instance : Eqv Int := ⟨fun x y => by simp [toPy, Py.toPy, PyData.eqv], 0, fun x => by simp [toPy, Py.toPy, PyData.depth]⟩
instance : Eqv Bool := ⟨fun x y => by simp [toPy, Py.toPy, PyData.eqv], 0, fun x => by simp [toPy, Py.toPy, PyData.depth]⟩
instance : Eqv Str := ⟨fun x y => by simp [toPy, Py.toPy, PyData.eqv], 0, fun x => by simp [toPy, Py.toPy, PyData.depth]⟩
instance {α : Type} [Py α] [Eqv α] : Eqv (List α) := ⟨fun x y => by
  show PyData.eqv (.list (x.map Py.toPy)) (.list (y.map Py.toPy)) = true ↔ x = y
  simp only [PyData.eqv]
  exact eqvAll_map x y, Eqv.d α + 1, fun x => by
  show PyData.depth (.list (x.map Py.toPy)) ≤ _
  simp only [PyData.depth]
  exact Nat.succ_le_succ (depthAll_map x)⟩
instance {α β : Type} [Py α] [Py β] [Eqv α] [Eqv β] : Eqv (α × β) := ⟨fun x y => by
  obtain ⟨x1, x2⟩ := x
  obtain ⟨y1, y2⟩ := y
  show PyData.eqv (.tuple [toPy x1, toPy x2]) (.tuple [toPy y1, toPy y2]) = true ↔ _
  simp only [PyData.eqv, PyData.eqvAll, Bool.and_eq_true, Bool.and_true, Prod.mk.injEq]
  rw [Eqv.eqv x1 y1, Eqv.eqv x2 y2], Eqv.d α + Eqv.d β + 1, fun x => by
  obtain ⟨x1, x2⟩ := x
  show PyData.depth (.tuple [toPy x1, toPy x2]) ≤ _
  have h1 := Eqv.shape x1
  have h2 := Eqv.shape x2
  simp only [PyData.depth, PyData.depthAll]
  omega⟩
instance {α β γ : Type} [Py α] [Py β] [Py γ] [Eqv α] [Eqv β] [Eqv γ] : Eqv (P3 α β γ) := ⟨fun x y => by
  obtain ⟨x1, x2, x3⟩ := x
  obtain ⟨y1, y2, y3⟩ := y
  show PyData.eqv (.tuple [toPy x1, toPy x2, toPy x3]) (.tuple [toPy y1, toPy y2, toPy y3]) = true ↔ _
  simp only [PyData.eqv, PyData.eqvAll, Bool.and_eq_true, Bool.and_true, P3.mk.injEq]
  rw [Eqv.eqv x1 y1, Eqv.eqv x2 y2, Eqv.eqv x3 y3], Eqv.d α + Eqv.d β + Eqv.d γ + 1, fun x => by
  obtain ⟨x1, x2, x3⟩ := x
  show PyData.depth (.tuple [toPy x1, toPy x2, toPy x3]) ≤ _
  have h1 := Eqv.shape x1
  have h2 := Eqv.shape x2
  have h3 := Eqv.shape x3
  simp only [PyData.depth, PyData.depthAll]
  omega⟩
instance {α β γ δ : Type} [Py α] [Py β] [Py γ] [Py δ] [Eqv α] [Eqv β] [Eqv γ] [Eqv δ] : Eqv (P4 α β γ δ) := ⟨fun x y => by
  obtain ⟨x1, x2, x3, x4⟩ := x
  obtain ⟨y1, y2, y3, y4⟩ := y
  show PyData.eqv (.tuple [toPy x1, toPy x2, toPy x3, toPy x4]) (.tuple [toPy y1, toPy y2, toPy y3, toPy y4]) = true ↔ _
  simp only [PyData.eqv, PyData.eqvAll, Bool.and_eq_true, Bool.and_true, P4.mk.injEq]
  rw [Eqv.eqv x1 y1, Eqv.eqv x2 y2, Eqv.eqv x3 y3, Eqv.eqv x4 y4], Eqv.d α + Eqv.d β + Eqv.d γ + Eqv.d δ + 1, fun x => by
  obtain ⟨x1, x2, x3, x4⟩ := x
  show PyData.depth (.tuple [toPy x1, toPy x2, toPy x3, toPy x4]) ≤ _
  have h1 := Eqv.shape x1
  have h2 := Eqv.shape x2
  have h3 := Eqv.shape x3
  have h4 := Eqv.shape x4
  simp only [PyData.depth, PyData.depthAll]
  omega⟩
theorem eqD_iff {α : Type} [Py α] [Eqv α] {x y : α} : eqD x y = true ↔ x = y := Eqv.eqv x y
theorem eqD_dec {α : Type} [Py α] [Eqv α] [DecidableEq α] {x y : α} : eqD x y = decide (x = y) := by
  by_cases h : x = y
  · rw [decide_eq_true h]; exact eqD_iff.mpr h
  · rw [decide_eq_false h]
    cases e : eqD x y with
    | false => rfl
    | true => exact absurd (eqD_iff.mp e) h
theorem eqD_self {α : Type} [Py α] [Eqv α] (x : α) : eqD x x = true := eqD_iff.mpr rfl
/-- what may be laid at all: the texts in it are of signs that there are -/
class Lay (α : Type) [Py α] where
  ok : α → Prop
  lay : ∀ x : α, ok x → (toPy x).canLay0 = true
theorem canLayAll_map {α : Type} [Py α] [Lay α] : ∀ xs : List α, (∀ x ∈ xs, Lay.ok x) → PyData.canLayAll0 (xs.map Py.toPy) = true
  | [], _ => by simp [PyData.canLayAll0]
  | x :: xs, h => by
    simp only [List.map_cons, PyData.canLayAll0, Bool.and_eq_true]
    exact ⟨Lay.lay x (h x List.mem_cons_self), canLayAll_map xs fun y hy => h y (List.mem_cons_of_mem _ hy)⟩
instance : Lay Int := ⟨fun _ => True, fun x _ => by simp [toPy, Py.toPy, PyData.canLay0]⟩
instance : Lay Bool := ⟨fun _ => True, fun x _ => by simp [toPy, Py.toPy, PyData.canLay0]⟩
instance : Lay Str := ⟨fun x => PyData.strOk x = true, fun x h => by simpa [toPy, Py.toPy, PyData.canLay0] using h⟩
instance {α : Type} [Py α] [Lay α] : Lay (List α) := ⟨fun xs => ∀ x ∈ xs, Lay.ok x, fun xs h => by
  show PyData.canLay0 (.list (xs.map Py.toPy)) = true
  simp only [PyData.canLay0]
  exact canLayAll_map xs h⟩
instance {α β : Type} [Py α] [Py β] [Lay α] [Lay β] : Lay (α × β) := ⟨fun x => Lay.ok x.1 ∧ Lay.ok x.2, fun x h => by
  show PyData.canLay0 (.tuple [toPy x.1, toPy x.2]) = true
  simp only [PyData.canLay0, PyData.canLayAll0, Bool.and_eq_true, Bool.and_true]
  exact ⟨Lay.lay _ h.1, Lay.lay _ h.2⟩⟩
instance {α β γ : Type} [Py α] [Py β] [Py γ] [Lay α] [Lay β] [Lay γ] : Lay (P3 α β γ) := ⟨fun x => Lay.ok x.a ∧ Lay.ok x.b ∧ Lay.ok x.c, fun x h => by
  show PyData.canLay0 (.tuple [toPy x.a, toPy x.b, toPy x.c]) = true
  simp only [PyData.canLay0, PyData.canLayAll0, Bool.and_eq_true, Bool.and_true]
  exact ⟨Lay.lay _ h.1, Lay.lay _ h.2.1, Lay.lay _ h.2.2⟩⟩
instance {α β γ δ : Type} [Py α] [Py β] [Py γ] [Py δ] [Lay α] [Lay β] [Lay γ] [Lay δ] : Lay (P4 α β γ δ) := ⟨fun x => Lay.ok x.a ∧ Lay.ok x.b ∧ Lay.ok x.c ∧ Lay.ok x.d, fun x h => by
  show PyData.canLay0 (.tuple [toPy x.a, toPy x.b, toPy x.c, toPy x.d]) = true
  simp only [PyData.canLay0, PyData.canLayAll0, Bool.and_eq_true, Bool.and_true]
  exact ⟨Lay.lay _ h.1, Lay.lay _ h.2.1, Lay.lay _ h.2.2.1, Lay.lay _ h.2.2.2⟩⟩
theorem okD_of {α : Type} [Py α] [Eqv α] [Lay α] {x : α} (h : Lay.ok x) (hd : Eqv.d α ≤ 64 := by decide) : okD x := by
  unfold okD SeqAt.shaped
  rw [Bool.and_eq_true]
  exact ⟨Lay.lay x h, decide_eq_true (Nat.le_trans (Eqv.shape x) hd)⟩
/-- kinds in which no text stands -/
class Pl (α : Type) [Py α] : Prop where
  lay : ∀ x : α, (toPy x).canLay0 = true
theorem plAll {α : Type} [Py α] [Pl α] : ∀ xs : List α, PyData.canLayAll0 (xs.map Py.toPy) = true
  | [] => by simp [PyData.canLayAll0]
  | x :: xs => by
    simp only [List.map_cons, PyData.canLayAll0, Bool.and_eq_true]
    exact ⟨Pl.lay x, plAll xs⟩
instance : Pl Int := ⟨fun x => by simp [toPy, Py.toPy, PyData.canLay0]⟩
instance : Pl Bool := ⟨fun x => by simp [toPy, Py.toPy, PyData.canLay0]⟩
instance : Pl Unit := ⟨fun x => by simp [toPy, Py.toPy, PyData.canLay0]⟩
instance {α : Type} [Py α] [Pl α] : Pl (List α) := ⟨fun xs => by
  show PyData.canLay0 (.list (xs.map Py.toPy)) = true
  simp only [PyData.canLay0]
  exact plAll xs⟩
instance {α : Type} [Py α] [Pl α] : Pl (Option α) := ⟨fun x => by
  cases x with
  | none => show PyData.canLay0 .none = true; simp [PyData.canLay0]
  | some a => exact Pl.lay a⟩
instance {α β : Type} [Py α] [Py β] [Pl α] [Pl β] : Pl (α × β) := ⟨fun x => by
  show PyData.canLay0 (.tuple [toPy x.1, toPy x.2]) = true
  simp only [PyData.canLay0, PyData.canLayAll0, Bool.and_eq_true, Bool.and_true]
  exact ⟨Pl.lay _, Pl.lay _⟩⟩
instance {α β γ : Type} [Py α] [Py β] [Py γ] [Pl α] [Pl β] [Pl γ] : Pl (P3 α β γ) := ⟨fun x => by
  show PyData.canLay0 (.tuple [toPy x.a, toPy x.b, toPy x.c]) = true
  simp only [PyData.canLay0, PyData.canLayAll0, Bool.and_eq_true, Bool.and_true]
  exact ⟨Pl.lay _, Pl.lay _, Pl.lay _⟩⟩
instance {α β γ δ : Type} [Py α] [Py β] [Py γ] [Py δ] [Pl α] [Pl β] [Pl γ] [Pl δ] : Pl (P4 α β γ δ) := ⟨fun x => by
  show PyData.canLay0 (.tuple [toPy x.a, toPy x.b, toPy x.c, toPy x.d]) = true
  simp only [PyData.canLay0, PyData.canLayAll0, Bool.and_eq_true, Bool.and_true]
  exact ⟨Pl.lay _, Pl.lay _, Pl.lay _, Pl.lay _⟩⟩
/-- kinds that are never None -/
class Nn (α : Type) [Py α] : Prop where
  ne : ∀ x : α, toPy x ≠ .none
  l : ∀ x : α, PyData.eqv (toPy x) .none = false
  r : ∀ x : α, PyData.eqv .none (toPy x) = false
instance : Nn Int := ⟨fun x e => (by cases e), fun x => (by simp [toPy, Py.toPy, PyData.eqv]), fun x => (by simp [toPy, Py.toPy, PyData.eqv])⟩
instance : Nn Bool := ⟨fun x e => (by cases e), fun x => (by simp [toPy, Py.toPy, PyData.eqv]), fun x => (by simp [toPy, Py.toPy, PyData.eqv])⟩
instance : Nn Str := ⟨fun x e => (by cases e), fun x => (by simp [toPy, Py.toPy, PyData.eqv]), fun x => (by simp [toPy, Py.toPy, PyData.eqv])⟩
instance {α : Type} [Py α] : Nn (List α) := ⟨fun x e => (by cases e), fun x => (by simp [toPy, Py.toPy, PyData.eqv]), fun x => (by simp [toPy, Py.toPy, PyData.eqv])⟩
instance {α β : Type} [Py α] [Py β] : Nn (α × β) := ⟨fun x e => (by cases e), fun x => (by simp [toPy, Py.toPy, PyData.eqv]), fun x => (by simp [toPy, Py.toPy, PyData.eqv])⟩
instance {α β γ : Type} [Py α] [Py β] [Py γ] : Nn (P3 α β γ) := ⟨fun x e => (by cases e), fun x => (by simp [toPy, Py.toPy, PyData.eqv]), fun x => (by simp [toPy, Py.toPy, PyData.eqv])⟩
instance {α β γ δ : Type} [Py α] [Py β] [Py γ] [Py δ] : Nn (P4 α β γ δ) := ⟨fun x e => (by cases e), fun x => (by simp [toPy, Py.toPy, PyData.eqv]), fun x => (by simp [toPy, Py.toPy, PyData.eqv])⟩
theorem nn {α : Type} [Py α] [Nn α] {x : Option α} : ∀ b : α, x = some b → toPy b ≠ .none := fun b _ => Nn.ne b
instance {α : Type} [Py α] [Eqv α] [Nn α] : Eqv (Option α) := ⟨fun x y => by
  cases x with
  | none =>
    cases y with
    | none => show PyData.eqv .none .none = true ↔ _; simp [PyData.eqv]
    | some b => show PyData.eqv .none (toPy b) = true ↔ _; rw [Nn.r]; simp
  | some a =>
    cases y with
    | none => show PyData.eqv (toPy a) .none = true ↔ _; rw [Nn.l]; simp
    | some b => show PyData.eqv (toPy a) (toPy b) = true ↔ _; rw [Eqv.eqv a b]; simp, Eqv.d α, fun x => by
  cases x with
  | none => show PyData.depth .none ≤ _; simp [PyData.depth]
  | some a => exact Eqv.shape a⟩
theorem okD_pl {α : Type} [Py α] [Eqv α] [Pl α] (x : α) (hd : Eqv.d α ≤ 64 := by decide) : okD x := by
  unfold okD SeqAt.shaped
  rw [Bool.and_eq_true]
  exact ⟨Pl.lay x, decide_eq_true (Nat.le_trans (Eqv.shape x) hd)⟩
theorem inD_iff {α : Type} [Py α] [Eqv α] {x : α} {ys : List α} : inD x ys = true ↔ x ∈ ys := by
  unfold inD
  rw [List.any_eq_true]
  constructor
  · rintro ⟨y, hy, e⟩
    rw [← eqD_iff.mp e]; exact hy
  · intro h
    exact ⟨x, h, eqD_self x⟩
theorem inD_dec {α : Type} [Py α] [Eqv α] [DecidableEq α] {x : α} {ys : List α} : inD x ys = decide (x ∈ ys) := by
  by_cases h : x ∈ ys
  · rw [decide_eq_true h]; exact inD_iff.mpr h
  · rw [decide_eq_false h]
    cases e : inD x ys with
    | false => rfl
    | true => exact absurd (inD_iff.mp e) h
end Z

namespace M
open PySem L2 Z

def dct_FORMS : List (Str × Str) := [(("load" : Str), ("bn" : Str)), (("store" : Str), ("nw" : Str)), (("swap" : Str), ("bnw" : Str)), (("let" : Str), ("bw" : Str)), (("say" : Str), ("w" : Str)), (("go" : Str), ("n" : Str))]
def rdr_READERS : List Str := [("b" : Str), ("n" : Str), ("w" : Str)]
def m_number_of_L1 (sign_ : Str) : W (Ctl (Option Int) (Unit)) :=
  W.ite (!hasS ("0123456789" : Str) sign_) (W.ret (Ctl.rt (none : (Option Int)))) (W.ret (Ctl.nx ()))
def m_number_of (word_ : Str) : W ((Option Int)) :=
  W.guard ((word_).length ≤ sizeLine) (W.bind (W.ite (decide (((word_).length : Int) < (1 : Int))) (W.ret true) (W.guard ((word_).length ≤ sizeLine) (W.bind (W.ite (decide (((word_).length : Int) > (3 : Int))) (W.ret true) (W.guard ((word_).length ≤ sizeLine) (W.bind (W.ite (decide (((word_).length : Int) > (1 : Int))) (W.bind (chr word_ (0 : Int)) fun t1 => W.ret (decide (t1 = ("0" : Str)))) (W.ret false)) (fun t2 => W.ret t2)))) (fun t6 => W.ret t6)))) (fun t10 => W.ite t10 (W.ret (none : (Option Int))) (W.bind (W.forC (chS word_) () (fun a s => m_number_of_L1 a)) fun c => W.after c (fun _ => W.bind (intS word_) fun t16 => W.ret (some t16)))))
def m_box_of (word_ : Str) : W ((Option Str)) :=
  W.guard ((word_).length ≤ sizeLine) (W.bind (W.ite (decide (((word_).length : Int) = (1 : Int))) (W.ret (hasS ("abcdefgh" : Str) word_)) (W.ret false)) (fun t1 => W.ite t1 (W.ret (some word_)) (W.ret (none : (Option Str)))))
def m_plain_of (word_ : Str) : W (PyData) :=
  W.bind (m_number_of word_) fun t1 => W.bind (W.ret t1) fun number_ => W.guard (∀ b, number_ = some b → toPy b ≠ .none) (W.ite (number_.isSome) (W.ret (toPy (("number" : Str), number_))) (W.bind (m_box_of word_) fun t8 => W.guard (∀ b, t8 = some b → toPy b ≠ .none) (W.ite (t8.isSome) (W.ret (toPy (("box" : Str), word_))) (W.ret (toPy ())))))
def m_worth_of_L1 (word_ : Str) (sign_ : Str) (joined_ : Str) : W (Ctl PyData (Unit)) :=
  W.ite (hasS word_ sign_) (W.guard (PartG word_ sign_) (W.bind (W.ret (parts word_ sign_)) fun u => (fun left_ mark_ right_ => W.bind (m_plain_of left_) fun t14 => W.bind (W.ret t14) fun one_ => W.bind (m_plain_of right_) fun t18 => W.bind (W.ret t18) fun other_ => W.bind (W.ite (pyNone one_) (W.ret true) (W.ret (pyNone other_))) (fun t22 => W.ite t22 (W.ret (Ctl.rt (toPy ()))) (W.ret (Ctl.rt (toPy (⟨joined_, one_, other_⟩ : (P3 Str PyData PyData))))))) u.a u.b u.c)) (W.ret (Ctl.nx ()))
def m_worth_of (word_ : Str) : W (PyData) :=
  W.bind (W.forC ([(("+" : Str), ("plus" : Str)), (("-" : Str), ("minus" : Str))] : (List (Str × Str))) () (fun a s => m_worth_of_L1 word_ a.1 a.2)) fun c => W.after c (fun _ => W.bind (m_plain_of word_) fun t30 => W.ret t30)
def m_unless_of (words_ : (List Str)) : W (PyData) :=
  W.bind (W.ite (!decide (((words_).length : Int) = (6 : Int))) (W.ret true) (W.bind (W.opt (atI words_ (2 : Int))) fun t1 => W.bind (W.ite (!decide (t1 ∈ ([(("=" : Str), ("<" : Str)).1, (("=" : Str), ("<" : Str)).2] : List Str))) (W.ret true) (W.bind (W.opt (atI words_ (4 : Int))) fun t5 => W.ret (!decide (t5 = ("go" : Str))))) (fun t7 => W.ret t7))) (fun t11 => W.ite t11 (W.ret (toPy ())) (W.bind (W.opt (atI words_ (1 : Int))) fun t15 => W.bind (m_worth_of t15) fun t17 => W.bind (W.ret t17) fun one_ => W.bind (W.opt (atI words_ (3 : Int))) fun t21 => W.bind (m_worth_of t21) fun t23 => W.bind (W.ret t23) fun other_ => W.bind (W.opt (atI words_ (5 : Int))) fun t27 => W.bind (m_number_of t27) fun t29 => W.bind (W.ret t29) fun to_ => W.bind (W.ite (pyNone one_) (W.ret true) (W.bind (W.ite (pyNone other_) (W.ret true) (W.guard (∀ b, to_ = some b → toPy b ≠ .none) (W.ret (to_.isNone)))) (fun t33 => W.ret t33))) (fun t37 => W.ite t37 (W.ret (toPy ())) (W.bind (W.opt (atI words_ (2 : Int))) fun t41 => W.ret (toPy (⟨("unless" : Str), t41, one_, other_, to_⟩ : (P5 Str Str PyData PyData (Option Int))))))))
def m_row_of_L1 (kind_ : Str) (word_ : Str) (parts_ : (List PyData)) : W ((List PyData)) :=
  W.bind (W.opt (keyIx rdr_READERS kind_)) fun t20 => W.bind (W.ret t20) fun reader_ => W.bind (rd3 reader_ (m_box_of word_) (m_number_of word_) (m_worth_of word_)) fun y23 => W.bind (apd parts_ y23) fun parts_ => W.ret (parts_)
def m_row_of_R1 (words_ : (List Str)) (parts_ : (List PyData)) : W (PyData) :=
  W.guard (okD () ∧ okD parts_) (W.ite (inD () parts_) (W.ret (toPy ())) (W.bind (W.opt (atI words_ (0 : Int))) fun t27 => W.guard (((⟨List.map toPy (⟨[t27]⟩ : (Tp Str)).l⟩ : Tp PyData)).l.length + ((⟨parts_⟩ : (Tp PyData))).l.length ≤ sizeLine) (W.ret (toPy (⟨(⟨List.map toPy (⟨[t27]⟩ : (Tp Str)).l⟩ : Tp PyData).l ++ (⟨parts_⟩ : (Tp PyData)).l⟩ : (Tp PyData))))))
def m_row_of (words_ : (List Str)) : W (PyData) :=
  W.bind (W.opt (atI words_ (0 : Int))) fun t1 => W.ite (decide (t1 = ("unless" : Str))) (W.bind (m_unless_of words_) fun t3 => W.ret t3) (W.bind (W.opt (atI words_ (0 : Int))) fun t8 => if (kvS dct_FORMS t8).isSome = true then W.bind (W.opt (kvS dct_FORMS t8)) (fun t10 => W.bind (W.ret t10) fun kinds_ => W.guard ((kinds_).length ≤ sizeLine) (W.ite (!decide (((words_).length : Int) = ((1 : Int) + ((kinds_).length : Int)))) (W.ret (toPy ())) (W.bind (W.ret ([] : (List PyData))) fun parts_ => W.guard ((chS kinds_).length = (Z.cut words_ (some (1 : Int)) none).length) (W.bind (W.forL (List.zip (chS kinds_) (Z.cut words_ (some (1 : Int)) none)) parts_ (fun a s => m_row_of_L1 a.1 a.2 s)) (fun s => m_row_of_R1 words_ s))))) else W.ret (toPy ()))
def m_cell_of (row_ : PyData) : W (PyData) :=
  W.bind (W.opt (pyIx row_ (0 : Int))) fun t1 => W.guard (okD t1 ∧ okD ("load" : Str)) (W.bind (W.ite (eqD t1 ("load" : Str)) (W.ret true) (W.bind (W.opt (pyIx row_ (0 : Int))) fun t3 => W.guard (okD t3 ∧ okD ("swap" : Str)) (W.ret (eqD t3 ("swap" : Str))))) (fun t5 => W.ite t5 (W.bind (W.opt (pyIx row_ (2 : Int))) fun t9 => W.ret t9) (W.bind (W.opt (pyIx row_ (0 : Int))) fun t11 => W.guard (okD t11 ∧ okD ("store" : Str)) (W.ite (eqD t11 ("store" : Str)) (W.bind (W.opt (pyIx row_ (1 : Int))) fun t13 => W.ret t13) (W.ret (toPy ()))))))
def m_cells_of (row_ : Str) : W (Int) :=
  W.guard (SplG row_ (" " : Str)) (W.bind (W.ret (Txt.split row_ (" " : Str))) fun words_ => W.bind (W.ite (!decide (((words_).length : Int) = (2 : Int))) (W.ret true) (W.bind (W.opt (atI words_ (0 : Int))) fun t7 => W.bind (W.ite (!decide (t7 = ("cells" : Str))) (W.ret true) (W.bind (W.opt (atI words_ (1 : Int))) fun t9 => W.bind (m_number_of t9) fun t11 => W.guard (∀ b, t11 = some b → toPy b ≠ .none) (W.ret (t11.isNone)))) (fun t15 => W.ret t15))) (fun t19 => W.ite t19 (W.bad) (W.bind (W.opt (atI words_ (1 : Int))) fun t23 => W.bind (m_number_of t23) fun t25 => W.bind (W.ret t25) fun many_ => W.bind (W.opt many_) fun t29 => W.bind (W.ite (decide (t29 < (1 : Int))) (W.ret true) (W.ret (decide (t29 > (20 : Int))))) (fun t31 => W.ite t31 (W.bad) (W.ret t29)))))
def m_take_row (hands_ : (List (List PyData))) (words_ : (List Str)) (many_ : Int) (at_ : Int) : W (Unit × (List (List PyData))) :=
  W.bind (m_row_of words_) fun t1 => W.bind (W.ret t1) fun made_ => W.bind (W.ite (pyNone made_) (W.ret true) (W.guard (okD hands_ ∧ okD ([] : (List (List PyData)))) (W.ret (eqD hands_ ([] : (List (List PyData))))))) (fun t7 => W.ite t7 (W.bad) (W.bind (m_cell_of made_) fun t11 => W.bind (W.ret t11) fun cell_ => W.bind (W.ite (!pyNone cell_) (W.bind (W.opt (Fr.fr cell_ : Option Int)) fun t15 => W.ret (decide (t15 ≥ many_))) (W.ret false)) (fun t17 => W.ite t17 (W.bad) (W.bind (W.opt (atI hands_ (-(1 : Int)))) fun t21 => W.ite (decide (((t21).length : Int) = (60 : Int))) (W.bad) (W.bind (W.opt (atI hands_ (-(1 : Int)))) fun t25 => W.bind (W.ret (-(1 : Int))) fun el29___ix_ => W.bind (W.opt (atI hands_ el29___ix_)) fun el29__ => W.bind (apd el29__ made_) fun el29__ => W.bind (W.ret (setI hands_ el29___ix_ el29__)) fun hands_ => W.ret ((), hands_))))))
def m_look_at_targets_L1 (hand_ : (List PyData)) (row_ : PyData) (at_ : Int) : W (Int) :=
  W.bind (W.ret (at_ + (1 : Int))) fun at_ => W.bind (W.opt (pyIx row_ (0 : Int))) fun t3 => W.bind (W.opt (Fr.fr t3 : Option Str)) fun t7 => W.bind (W.ite (decide (t7 ∈ ([(("go" : Str), ("unless" : Str)).1, (("go" : Str), ("unless" : Str)).2] : List Str))) (W.bind (W.opt (pyIx row_ (-(1 : Int)))) fun t9 => W.bind (W.opt (Fr.fr t9 : Option Int)) fun t11 => W.ret (decide (t11 > ((hand_).length : Int)))) (W.ret false)) (fun t13 => W.ite t13 (W.bad) (W.ret (at_)))
def m_look_at_targets_L2 (hand_ : (List PyData)) (at_ : Int) : W (Int) :=
  W.bind (W.ret (at_ + (1 : Int))) fun at_ => W.bind (W.forL hand_ at_ (fun a s => m_look_at_targets_L1 hand_ a s)) (fun s => (fun at_ => W.ret (at_)) s)
def m_look_at_targets (hands_ : (List (List PyData))) : W (Unit) :=
  W.bind (W.ret (1 : Int)) fun at_ => W.bind (W.forL hands_ at_ (fun a s => m_look_at_targets_L2 a s)) (fun s => (fun at_ => W.ret ()) s)
def m_read_L1 (many_ : Int) (at_ : Int) (row_ : Str) (hands_ : (List (List PyData))) : W ((List (List PyData))) :=
  W.bind (W.ite (!decide (row_ = ("hand" : Str))) (W.guard (SplG row_ (" " : Str)) (W.bind2 (m_take_row hands_ (Txt.split row_ (" " : Str)) many_ at_) fun t24 hands_ => W.ret (hands_))) (W.ite (decide (((hands_).length : Int) = (8 : Int))) (W.bad) (W.bind (apd hands_ ([] : (List PyData))) fun hands_ => W.ret (hands_)))) (fun s => (fun hands_ => W.ret (hands_)) s)
def m_read (text_ : Str) : W ((Int × (List (List PyData)))) :=
  W.guard (SplG text_ ("\n" : Str)) (W.bind (W.ret (Txt.split text_ ("\n" : Str))) fun rows_ => W.bind (W.opt (atI rows_ (0 : Int))) fun t7 => W.bind (m_cells_of t7) fun t9 => W.bind (W.ret t9) fun many_ => W.bind (W.ret ([] : (List (List PyData)))) fun hands_ => W.bind (W.forL (enumS 2 (Z.cut rows_ (some (1 : Int)) none)) hands_ (fun a s => m_read_L1 many_ a.1 a.2 s)) (fun s => (fun hands_ => W.guard (okD hands_ ∧ okD ([] : (List (List PyData)))) (W.ite (eqD hands_ ([] : (List (List PyData)))) (W.bad) (W.bind (m_look_at_targets hands_) fun t36 => W.ret (many_, hands_)))) s))
def m_law_reel_L1 (cell_ : Int) (stir_ : Int) : W (Int) :=
  W.guard (CMulW stir_ stir_) (W.guard (CPow (2 : Int) (64 : Int)) (W.guard (CPow (2 : Int) (63 : Int)) (W.guard (CMulW ((2 : Int) ^ ((64 : Int)).toNat) ((2 : Int) ^ ((63 : Int)).toNat)) (W.guard (0 < ((((2 : Int) ^ ((64 : Int)).toNat) * ((2 : Int) ^ ((63 : Int)).toNat)) - (1 : Int))) (W.bind (W.ret ((((stir_ * stir_) + (cell_ % (1000000000000000003 : Int))) + (11 : Int)) % ((((2 : Int) ^ ((64 : Int)).toNat) * ((2 : Int) ^ ((63 : Int)).toNat)) - (1 : Int)))) fun stir_ => W.ret (stir_))))))
def m_law_reel_R1 (script_ : (List Int)) (stir_ : Int) : W ((H4 (List Int) (List Int) Int Int)) :=
  W.bind (compG (Z.cut script_ none (some (63 : Int))) (fun cell_ => W.guard (CPow (10 : Int) (18 : Int)) (W.ret (decide (cell_ ≥ ((10 : Int) ^ ((18 : Int)).toNat))))) (fun cell_ => W.guard (CPow (10 : Int) (18 : Int)) (W.ret (cell_ - ((10 : Int) ^ ((18 : Int)).toNat))))) fun t16 => W.bind (W.ret t16) fun great_ => W.bind (compG (Z.cut script_ none (some (63 : Int))) (fun cell_ => W.ret true) (fun cell_ => W.ret (cell_ % (1000003 : Int)))) fun t30 => W.guard ((t30).length + (([(41 : Int)] : (List Int))).length ≤ sizeLine) (W.ret (⟨great_, (t30 ++ ([(41 : Int)] : (List Int))), (0 : Int), stir_⟩ : (H4 (List Int) (List Int) Int Int)))
def m_law_reel (script_ : (List Int)) : W ((H4 (List Int) (List Int) Int Int)) :=
  W.guard (CPow (3 : Int) (60 : Int)) (W.bind (W.ret ((3 : Int) ^ ((60 : Int)).toNat)) fun stir_ => W.bind (W.forL (Z.cut script_ none (some (63 : Int))) stir_ (fun a s => m_law_reel_L1 a s)) (fun s => m_law_reel_R1 script_ s))
def m_law_draw (reel_ : (H4 (List Int) (List Int) Int Int)) (many_ : Int) : W (Int × (H4 (List Int) (List Int) Int Int)) :=
  W.guard (okD reel_.a ∧ okD ([] : (List Int))) (W.ite (!eqD reel_.a ([] : (List Int))) (W.bind (W.opt (atI reel_.a (0 : Int))) fun t7 => W.bind (W.ret t7) fun rest_ => W.guard (CDivW rest_ many_) (W.guard (repG ([(rest_ / many_)] : (List Int)) (if (decide (rest_ ≥ many_)) then (1 : Int) else 0)) (W.guard (((repL ([(rest_ / many_)] : (List Int)) (if (decide (rest_ ≥ many_)) then (1 : Int) else 0))).length + ((Z.cut reel_.a (some (1 : Int)) none)).length ≤ sizeLine) (W.bind (W.ret ({ reel_ with a := ((repL ([(rest_ / many_)] : (List Int)) (if (decide (rest_ ≥ many_)) then (1 : Int) else 0)) ++ (Z.cut reel_.a (some (1 : Int)) none)) } : (H4 (List Int) (List Int) Int Int))) fun reel_ => W.guard (0 < many_) (W.ret ((rest_ % many_), reel_)))))) (W.bind (W.ret ({ reel_ with c := (reel_.c + (1 : Int)) } : (H4 (List Int) (List Int) Int Int))) fun reel_ => W.guard (0 < ((reel_.b).length : Int)) (W.bind (W.opt (atI reel_.b (reel_.c % ((reel_.b).length : Int)))) fun t32 => W.bind (W.ret t32) fun told_ => W.guard (CMulW reel_.d reel_.d) (W.guard (CMulW (told_ + (7 : Int)) (69621 : Int)) (W.guard (CMulW reel_.c (1000003 : Int)) (W.bind (W.ret (((reel_.d * reel_.d) + ((told_ + (7 : Int)) * (69621 : Int))) + (reel_.c * (1000003 : Int)))) fun stir_ => W.guard (CPow (2 : Int) (64 : Int)) (W.guard (CPow (2 : Int) (63 : Int)) (W.guard (CMulW ((2 : Int) ^ ((64 : Int)).toNat) ((2 : Int) ^ ((63 : Int)).toNat)) (W.guard (0 < ((((2 : Int) ^ ((64 : Int)).toNat) * ((2 : Int) ^ ((63 : Int)).toNat)) - (1 : Int))) (W.bind (W.ret ({ reel_ with d := (stir_ % ((((2 : Int) ^ ((64 : Int)).toNat) * ((2 : Int) ^ ((63 : Int)).toNat)) - (1 : Int))) } : (H4 (List Int) (List Int) Int Int))) fun reel_ => W.guard (CPow (2 : Int) (40 : Int)) (W.guard (CDivW reel_.d ((2 : Int) ^ ((40 : Int)).toNat)) (W.guard (0 < many_) (W.ret (((reel_.d / ((2 : Int) ^ ((40 : Int)).toNat)) % many_), reel_))))))))))))))
def m_law_alike_R : Nat → PyData → PyData → W (Bool)
  | 0, _, _ => W.bad
  | n + 1, found_, due_ =>
  W.guard (okP due_) (W.bind (W.ite (isP due_ "tuple") (W.ret true) (W.guard (okP due_) (W.ret (isP due_ "list")))) (fun t1 => W.ite t1 (W.guard (okP found_) (W.guard (okP due_) (W.bind (W.ite (!decide ((isP found_ "tuple") = (isP due_ "tuple"))) (W.ret true) (W.guard (okP found_) (W.guard (okP due_) (W.ret (!decide ((isP found_ "list") = (isP due_ "list"))))))) (fun t5 => W.ite t5 (W.ret false) (W.bind (W.opt (pyLen found_)) fun t9 => W.bind (W.opt (pyLen due_)) fun t10 => W.ite (!decide (t9 = t10)) (W.ret false) (W.bind (W.opt (pyZip found_ due_)) fun t11 => W.bind (compG t11 (fun a => (fun mine_ other_ => W.ret true) a.1 a.2) (fun a => (fun mine_ other_ => W.bind (m_law_alike_R n mine_ other_) fun t14 => W.ret t14) a.1 a.2)) fun t23 => W.ret ((t23).all id))))))) (W.ite (pyNone due_) (W.ret (pyNone found_)) (W.guard (okP due_) (W.bind (W.ite (isP due_ "bool") (W.ret true) (W.guard (okP due_) (W.ret (isP due_ "str")))) (fun t26 => W.ite t26 (W.guard (okP found_) (W.guard (okP due_) (W.bind (W.ite (decide ((isP found_ "bool") = (isP due_ "bool"))) (W.guard (okD found_ ∧ okD due_) (W.ret (eqD found_ due_))) (W.ret false)) (fun t30 => W.ret t30)))) (W.guard (okP found_) (W.bind (W.ite (isP found_ "int") (W.guard (okP found_) (W.bind (W.ite (!(isP found_ "bool")) (W.guard (okD found_ ∧ okD due_) (W.ret (eqD found_ due_))) (W.ret false)) (fun t34 => W.ret t34))) (W.ret false)) (fun t38 => W.ret t38)))))))))
def m_law_alike (found_ : PyData) (due_ : PyData) : W (Bool) := m_law_alike_R 7 found_ due_
def m_law_plain (reel_ : (H4 (List Int) (List Int) Int Int)) : W (PyData × (H4 (List Int) (List Int) Int Int)) :=
  W.bind2 (m_law_draw reel_ (3 : Int)) fun t1 reel_ => W.bind (W.ret t1) fun kind_ => W.ite (decide (kind_ = (0 : Int))) (W.bind2 (m_law_draw reel_ (8 : Int)) fun t5 reel_ => W.bind (chr ("abcdefgh" : Str) t5) fun t9 => W.ret ((toPy (("box" : Str), t9)), reel_)) (W.bind (W.opt (atI ([(0 : Int), (1000 : Int), (12 : Int)] : (List Int)) kind_)) fun t17 => W.bind2 (m_law_draw reel_ t17) fun t19 reel_ => W.ret ((toPy (("number" : Str), t19)), reel_))
def m_law_worth (reel_ : (H4 (List Int) (List Int) Int Int)) : W (PyData × (H4 (List Int) (List Int) Int Int)) :=
  W.bind2 (m_law_draw reel_ (4 : Int)) fun t1 reel_ => W.bind (W.ret t1) fun kind_ => W.bind2 (m_law_plain reel_) fun t5 reel_ => W.bind (W.ret t5) fun one_ => W.ite (decide (kind_ < (2 : Int))) (W.ret (one_, reel_)) (W.bind (W.opt (atI ([("plus" : Str), ("minus" : Str)] : (List Str)) (kind_ - (2 : Int)))) fun t13 => W.bind2 (m_law_plain reel_) fun t15 reel_ => W.ret ((toPy (⟨t13, one_, t15⟩ : (P3 Str PyData PyData))), reel_))
def m_law_row (reel_ : (H4 (List Int) (List Int) Int Int)) (many_ : Int) (size_ : Int) : W (PyData × (H4 (List Int) (List Int) Int Int)) :=
  W.bind2 (m_law_draw reel_ (8 : Int)) fun t1 reel_ => W.bind (W.ret t1) fun kind_ => W.bind2 (m_law_draw reel_ (8 : Int)) fun t5 reel_ => W.bind (chr ("abcdefgh" : Str) t5) fun t9 => W.bind (W.ret t9) fun box_ => W.bind2 (m_law_draw reel_ many_) fun t10 reel_ => W.bind (W.ret t10) fun cell_ => W.bind2 (m_law_draw reel_ (size_ + (1 : Int))) fun t14 reel_ => W.bind (W.ret t14) fun to_ => W.ite (decide (kind_ = (0 : Int))) (W.ret ((toPy (⟨("load" : Str), box_, cell_⟩ : (P3 Str Str Int))), reel_)) (W.ite (decide (kind_ = (1 : Int))) (W.bind2 (m_law_worth reel_) fun t21 reel_ => W.ret ((toPy (⟨("store" : Str), cell_, t21⟩ : (P3 Str Int PyData))), reel_)) (W.ite (decide (kind_ = (2 : Int))) (W.bind2 (m_law_worth reel_) fun t28 reel_ => W.ret ((toPy (⟨("swap" : Str), box_, cell_, t28⟩ : (P4 Str Str Int PyData))), reel_)) (W.ite (decide (kind_ = (3 : Int))) (W.bind2 (m_law_worth reel_) fun t35 reel_ => W.ret ((toPy (⟨("let" : Str), box_, t35⟩ : (P3 Str Str PyData))), reel_)) (W.ite (decide (kind_ = (4 : Int))) (W.bind2 (m_law_worth reel_) fun t42 reel_ => W.ret ((toPy (("say" : Str), t42)), reel_)) (W.ite (decide (kind_ = (5 : Int))) (W.ret ((toPy (("go" : Str), to_)), reel_)) (W.bind (chr ("=<" : Str) (kind_ - (6 : Int))) fun t52 => W.bind2 (m_law_worth reel_) fun t53 reel_ => W.bind2 (m_law_worth reel_) fun t57 reel_ => W.ret ((toPy (⟨("unless" : Str), t52, t53, t57, to_⟩ : (P5 Str Str PyData PyData Int))), reel_)))))))
def m_law_program_L1 (great_ : Int) (many_ : Int) (k_ : Int) (reel_ : (H4 (List Int) (List Int) Int Int)) (hands_ : (List (List PyData))) : W ((H4 (List Int) (List Int) Int Int) × (List (List PyData))) :=
  W.bind (W.opt (atI ([(7 : Int), (61 : Int)] : (List Int)) (if (decide (great_ = (7 : Int))) then (1 : Int) else 0))) fun t26 => W.bind2 (m_law_draw reel_ t26) fun t28 reel_ => W.bind (W.ret t28) fun size_ => W.guard (rngOk 0 size_) (W.bind (compSG (rng 0 size_) reel_ (fun a s => (fun at_ => (fun reel_ => W.bind2 (m_law_row reel_ many_ size_) fun t34 reel_ => W.ret (some t34, reel_)) s) a)) fun q => (fun t41 reel_ => W.bind (apd hands_ t41) fun hands_ => W.ret ((reel_, hands_))) q.1 q.2)
def m_law_program (reel_ : (H4 (List Int) (List Int) Int Int)) : W ((Int × (List (List PyData))) × (H4 (List Int) (List Int) Int Int)) :=
  W.bind2 (m_law_draw reel_ (8 : Int)) fun t1 reel_ => W.bind (W.ret t1) fun great_ => W.bind2 (m_law_draw reel_ (20 : Int)) fun t5 reel_ => W.bind (W.ret ((1 : Int) + t5)) fun many_ => W.bind (W.ret ([] : (List (List PyData)))) fun hands_ => W.bind (W.opt (atI ([(4 : Int), (8 : Int)] : (List Int)) (if (decide (great_ > (5 : Int))) then (1 : Int) else 0))) fun t15 => W.bind2 (m_law_draw reel_ t15) fun t17 reel_ => W.guard (rngOk 0 ((1 : Int) + t17)) (W.bind (W.forL (rng 0 ((1 : Int) + t17)) (reel_, hands_) (fun a s => m_law_program_L1 great_ many_ a s.1 s.2)) (fun s => (fun reel_ hands_ => W.ret ((many_, hands_), reel_)) s.1 s.2))
def m_law_worth_text (told_ : PyData) : W (Str) :=
  W.bind (W.opt (pyIx told_ (0 : Int))) fun t1 => W.guard (okD t1 ∧ okD ("plus" : Str)) (W.ite (eqD t1 ("plus" : Str)) (W.bind (W.opt (pyIx told_ (1 : Int))) fun t3 => W.bind (W.opt (pyIx t3 (1 : Int))) fun t5 => W.bind (strP t5) fun t7 => W.guard ((t7).length + (("+" : Str)).length ≤ sizeLine) (W.bind (W.opt (pyIx told_ (2 : Int))) fun t8 => W.bind (W.opt (pyIx t8 (1 : Int))) fun t10 => W.bind (strP t10) fun t12 => W.guard (((t7 ++ ("+" : Str))).length + (t12).length ≤ sizeLine) (W.ret ((t7 ++ ("+" : Str)) ++ t12)))) (W.bind (W.opt (pyIx told_ (0 : Int))) fun t13 => W.guard (okD t13 ∧ okD ("minus" : Str)) (W.ite (eqD t13 ("minus" : Str)) (W.bind (W.opt (pyIx told_ (1 : Int))) fun t15 => W.bind (W.opt (pyIx t15 (1 : Int))) fun t17 => W.bind (strP t17) fun t19 => W.guard ((t19).length + (("-" : Str)).length ≤ sizeLine) (W.bind (W.opt (pyIx told_ (2 : Int))) fun t20 => W.bind (W.opt (pyIx t20 (1 : Int))) fun t22 => W.bind (strP t22) fun t24 => W.guard (((t19 ++ ("-" : Str))).length + (t24).length ≤ sizeLine) (W.ret ((t19 ++ ("-" : Str)) ++ t24)))) (W.bind (W.opt (pyIx told_ (1 : Int))) fun t25 => W.bind (strP t25) fun t27 => W.ret t27))))
def m_law_row_text_L1 (part_ : PyData) (words_ : (List Str)) : W ((List Str)) :=
  W.guard (okP part_) (W.bind (W.ite (isP part_ "tuple") (W.bind (m_law_worth_text part_) fun t39 => W.bind (apd words_ t39) fun words_ => W.ret (words_)) (W.bind (strP part_) fun t43 => W.bind (apd words_ t43) fun words_ => W.ret (words_))) (fun s => (fun words_ => W.ret (words_)) s))
def m_law_row_text (row_ : PyData) : W (Str) :=
  W.bind (W.opt (pyIx row_ (0 : Int))) fun t1 => W.guard (okD t1 ∧ okD ("unless" : Str)) (W.ite (eqD t1 ("unless" : Str)) (W.bind (W.opt (pyIx row_ (2 : Int))) fun t3 => W.bind (m_law_worth_text t3) fun t5 => W.bind (W.opt (pyIx row_ (1 : Int))) fun t9 => W.bind (W.opt (Fr.fr t9 : Option Str)) fun t11 => W.bind (W.opt (pyIx row_ (3 : Int))) fun t13 => W.bind (m_law_worth_text t13) fun t15 => W.bind (W.opt (pyIx row_ (4 : Int))) fun t19 => W.bind (strP t19) fun t21 => W.guard (JoinG (" " : Str) ([("unless" : Str), t5, t11, t15, ("go" : Str), t21] : (List Str))) (W.ret (Txt.join (" " : Str) ([("unless" : Str), t5, t11, t15, ("go" : Str), t21] : (List Str))))) (W.bind (W.opt (pyIx row_ (0 : Int))) fun t26 => W.bind (W.opt (Fr.fr t26 : Option Str)) fun t28 => W.bind (W.ret ([t28] : (List Str))) fun words_ => W.bind (W.opt (Fr.fr row_ : Option (Tp PyData))) fun t34 => W.bind (W.forL ((⟨Z.cut t34.l (some (1 : Int)) none⟩ : (Tp PyData)).l) words_ (fun a s => m_law_row_text_L1 a s)) (fun s => (fun words_ => W.guard (JoinG (" " : Str) words_) (W.ret (Txt.join (" " : Str) words_))) s)))
def m_law_text_L1 (hand_ : (List PyData)) (rows_ : (List Str)) : W ((List Str)) :=
  W.guard ((rows_).length + (([("hand" : Str)] : (List Str))).length ≤ sizeLine) (W.bind (compG hand_ (fun row_ => W.ret true) (fun row_ => W.bind (m_law_row_text row_) fun t20 => W.ret t20)) fun t27 => W.guard (((rows_ ++ ([("hand" : Str)] : (List Str)))).length + (t27).length ≤ sizeLine) (W.bind (W.ret ((rows_ ++ ([("hand" : Str)] : (List Str))) ++ t27)) fun rows_ => W.ret (rows_)))
def m_law_text (program_ : (Int × (List (List PyData)))) : W (Str) :=
  W.guard (CStr program_.1) (W.guard ((("cells " : Str)).length + ((strI program_.1)).length ≤ sizeLine) (W.bind (W.ret ([(("cells " : Str) ++ (strI program_.1))] : (List Str))) fun rows_ => W.bind (W.forL program_.2 rows_ (fun a s => m_law_text_L1 a s)) (fun s => (fun rows_ => W.guard (JoinG ("\n" : Str) rows_) (W.ret (Txt.join ("\n" : Str) rows_))) s)))
def m_law_R1 (reel_ : (H4 (List Int) (List Int) Int Int)) (many_ : Int) (at_ : Int) (hands_ : (List (List PyData))) :=
  W.bind (m_law_text (many_, hands_)) fun t34 => W.bind (W.ret t34) fun text_ => W.bind (m_read text_) fun t40 => W.bind (W.ret t40.1) fun found__0_ => W.bind (W.ret t40.2) fun found__1_ => W.bind (m_law_alike (toPy (found__0_, found__1_)) (toPy (many_, hands_))) fun t50 => W.ite (!t50) (W.ret (Ctl.rt false)) (W.bind (W.opt (atI found__1_ at_)) fun t56 => W.bind (W.ret at_) fun el65___ix_ => W.bind (W.opt (atI found__1_ el65___ix_)) fun el65__ => W.bind (apd el65__ (toPy (("say" : Str), (("number" : Str), (0 : Int))))) fun el65__ => W.bind (W.ret (setI found__1_ el65___ix_ el65__)) fun found__1_ => W.guard (((Z.cut found__1_ none (some at_))).length + ((Z.cut found__1_ (some (at_ + (1 : Int))) none)).length ≤ sizeLine) (W.bind (W.ret ((Z.cut found__1_ none (some at_)) ++ (Z.cut found__1_ (some (at_ + (1 : Int))) none))) fun others_ => W.guard (((Z.cut hands_ none (some at_))).length + ((Z.cut hands_ (some (at_ + (1 : Int))) none)).length ≤ sizeLine) (W.bind (m_law_alike (toPy others_) (toPy ((Z.cut hands_ none (some at_)) ++ (Z.cut hands_ (some (at_ + (1 : Int))) none)))) fun t95 => W.bind (W.ite (!t95) (W.ret true) (W.bind (m_read text_) fun t101 => W.bind (m_law_alike (toPy t101) (toPy (many_, hands_))) fun t111 => W.ret (!t111))) (fun t117 => W.ite t117 (W.ret (Ctl.rt false)) (W.ret (Ctl.nx reel_))))))
def m_law_L1 (k_ : Int) (reel_ : (H4 (List Int) (List Int) Int Int)) : W (Ctl Bool ((H4 (List Int) (List Int) Int Int))) :=
  W.bind2 (m_law_draw reel_ (4 : Int)) fun t6 reel_ => W.bind (W.ret (decide (t6 = (0 : Int)))) fun twice_ => W.bind2 (m_law_program reel_) fun t10 reel_ => W.bind (W.ret t10.1) fun many_ => W.bind (W.ret t10.2) fun hands_ => W.bind2 (m_law_draw reel_ ((hands_).length : Int)) fun t18 reel_ => W.bind (W.ret t18) fun at_ => W.bind (W.ite twice_ (W.bind (W.opt (atI hands_ at_)) fun t22 => W.bind (sti hands_ (-(1 : Int)) t22) fun hands_ => W.ret (hands_)) (W.ret (hands_))) (fun s => m_law_R1 reel_ many_ at_ s)
def m_law (script_ : (List Int)) : W (Bool) :=
  W.bind (m_law_reel script_) fun t1 => W.bind (W.ret t1) fun reel_ => W.guard (CDivW ((script_).length : Int) (8 : Int)) (W.guard (rngOk 0 ((1 : Int) + (if (3 : Int) < (((script_).length : Int) / (8 : Int)) then (3 : Int) else (((script_).length : Int) / (8 : Int))))) (W.bind (W.forC (rng 0 ((1 : Int) + (if (3 : Int) < (((script_).length : Int) / (8 : Int)) then (3 : Int) else (((script_).length : Int) / (8 : Int))))) reel_ (fun a s => m_law_L1 a s)) fun c => W.after c (fun s => (fun reel_ => W.ret true) s)))
end M

/-! # general ways -/
namespace M
open PySem L2 Z
theorem rng_mem {a b x : Int} : x ∈ rng a b ↔ a ≤ x ∧ x < b := by
  unfold rng
  rw [List.mem_map]
  constructor
  · rintro ⟨k, hk, rfl⟩
    rw [List.mem_range] at hk
    omega
  · rintro ⟨h1, h2⟩
    exact ⟨(x - a).toNat, by rw [List.mem_range]; omega, by omega⟩
theorem rng_pw (a b : Int) : (rng a b).Pairwise (· < ·) := by
  unfold rng
  rw [List.pairwise_map]
  exact List.pairwise_lt_range.imp fun h => by omega
theorem take_snocN {α : Type} {xs : List α} {i : Nat} {x : α} (h : xs[i]? = some x) : xs.take (i + 1) = xs.take i ++ [x] := by
  rw [List.take_add_one, h]
  rfl
theorem at_head {α : Type} {x : α} {l : List α} : atI (x :: l) (0 : Int) = some x := atI_nat (j := 0) rfl
theorem at_last {α : Type} {x : α} {l : List α} : atI (l ++ [x]) (-(1 : Int)) = some x := atI_last l x
/-- a loop that is left at last -/
theorem while_wp {S ρ : Type} (Inv : S → Prop) (μ : S → Nat) {s : S} {f : S → W (Ctl ρ S)} {Φ : Ctl ρ S → Prop} (h0 : Inv s)
    (step : ∀ s, Inv s → (f s).run (CtlP (fun s' => Inv s' ∧ μ s' < μ s) (fun s' => Φ (.nx s')) (fun r => Φ (.rt r)))) : (W.whileL s f).run Φ := by
  have key : ∀ m s, Inv s → μ s < m → (W.whileN m s f).run Φ := by
    intro m
    induction m with
    | zero => intro s _ h; omega
    | succ m ih =>
      intro s hs hm
      show (W.bind (f s) _).run Φ
      rw [run_bind]
      refine run_mono (step s hs) fun c hc => ?_
      cases c with
      | nx s' => exact ih s' hc.1 (by have := hc.2; omega)
      | bk s' => exact hc
      | rt r => exact hc
  exact ⟨μ s + 1, key _ s h0 (Nat.lt_succ_self _)⟩
/-- a loop that is left where a test holds -/
theorem forC_any {α ρ : Type} {xs : List α} {f : α → Unit → W (Ctl ρ Unit)} (t : α → Bool) (r : ρ) {Φ : Ctl ρ Unit → Prop} (hf : ∀ x ∈ xs, ∀ Ψ : Ctl ρ Unit → Prop, Ψ (if t x = true then .rt r else .nx ()) → (f x ()).run Ψ)
    (k : Φ (if xs.any t = true then .rt r else .nx ())) : (W.forC xs () f).run Φ := by
  induction xs with
  | nil => exact k
  | cons x xs ih =>
    show (W.bind (f x ()) _).run Φ
    rw [run_bind]
    refine hf x List.mem_cons_self _ ?_
    rw [List.any_cons] at k
    by_cases c : t x = true
    · rw [if_pos c]
      rw [c, Bool.true_or, if_pos rfl] at k
      exact k
    · rw [if_neg c]
      rw [Bool.not_eq_true] at c
      rw [c, Bool.false_or] at k
      exact ih (fun y hy => hf y (List.mem_cons_of_mem _ hy)) k
theorem popI_wp {α : Type} {xs : List α} {i : Nat} {Φ : α × List α → Prop} (h : i < xs.length) (hl : xs.length ≤ 100000) (k : Φ (xs[i], xs.eraseIdx i)) : (popI xs (i : Int)).run Φ :=
  ⟨⟨by omega, by omega⟩, i, by rw [ixN_nat' (by omega) (by omega), Int.toNat_natCast], xs[i], List.getElem?_eq_getElem h, k⟩
theorem mnD_cases (xs : List Int) (d : Int) : (xs = [] ∧ mnD xs d = d) ∨ (mnD xs d ∈ xs ∧ ∀ y ∈ xs, mnD xs d ≤ y) := by
  cases xs with
  | nil => exact .inl ⟨rfl, rfl⟩
  | cons x xs => exact .inr (mnF xs x)
theorem mxD_cases (xs : List Int) (d : Int) : (xs = [] ∧ mxD xs d = d) ∨ (mxD xs d ∈ xs ∧ ∀ y ∈ xs, y ≤ mxD xs d) := by
  cases xs with
  | nil => exact .inl ⟨rfl, rfl⟩
  | cons x xs => exact .inr (mxF xs x)
/-- a comprehension that carries a state -/
theorem compSG_wp {α β S : Type} {xs : List α} {s : S} {f : α → S → W (Option β × S)} (Inv : Nat → S → List β → Prop) {Φ : List β × S → Prop} (hl : xs.length ≤ sizeLine) (h0 : Inv 0 s [])
    (step : ∀ i x s acc, xs[i]? = some x → Inv i s acc → (f x s).run fun r => match r.1 with | none => Inv (i + 1) r.2 acc | some y => Inv (i + 1) r.2 (acc ++ [y])) (k : ∀ s acc, Inv xs.length s acc → Φ (acc, s)) : (compSG xs s f).run Φ := by
  refine ⟨hl, ?_⟩
  have key : ∀ (ys : List α) (i : Nat) (s : S) (acc : List β), (∀ j x, ys[j]? = some x → xs[i + j]? = some x) → i + ys.length = xs.length → Inv i s acc → (compS ys acc s f).run Φ := by
    intro ys
    induction ys with
    | nil =>
      intro i s acc _ e h
      exact k s acc (by rw [← e]; exact h)
    | cons y ys ih =>
      intro i s acc hx e h
      show (W.bind (f y s) _).run Φ
      rw [run_bind]
      refine run_mono (step i y s acc (hx 0 y rfl) h) fun r hr => ?_
      obtain ⟨o, s'⟩ := r
      have hx' : ∀ j x, ys[j]? = some x → xs[i + 1 + j]? = some x := fun j x q => by rw [Nat.add_right_comm]; exact hx (j + 1) x q
      have e' : i + 1 + ys.length = xs.length := by rw [← e]; simp; omega
      cases o with
      | none => exact ih (i + 1) s' acc hx' e' hr
      | some z => exact ih (i + 1) s' (acc ++ [z]) hx' e' hr
  exact key xs 0 s [] (fun j x q => by rw [Nat.zero_add]; exact q) (by omega) h0
end M

/-! # works: two answers that are the same are alike; the reel -/
namespace M
open PySem L2 Z
abbrev WReel := H4 (List Int) (List Int) Int Int
/-! ### data: what simp should know -/
theorem pt {xs : List PyData} {i : Int} : pyIx (.tuple xs) i = atI xs i := rfl
theorem at0 {α : Type} {a : α} {l : List α} : atI (a :: l) (0 : Int) = some a := atI_nat (j := 0) rfl
theorem at1 {α : Type} {a b : α} {l : List α} : atI (a :: b :: l) (1 : Int) = some b := atI_nat (j := 1) rfl
theorem at2 {α : Type} {a b c : α} {l : List α} : atI (a :: b :: c :: l) (2 : Int) = some c := atI_nat (j := 2) rfl
theorem at3 {α : Type} {a b c d : α} {l : List α} : atI (a :: b :: c :: d :: l) (3 : Int) = some d := atI_nat (j := 3) rfl
theorem at4 {α : Type} {a b c d e : α} {l : List α} : atI (a :: b :: c :: d :: e :: l) (4 : Int) = some e := atI_nat (j := 4) rfl
theorem atL3 {α : Type} {a b c : α} : atI [a, b, c] (-(1 : Int)) = some c := atI_last [a, b] c
theorem atL4 {α : Type} {a b c d : α} : atI [a, b, c, d] (-(1 : Int)) = some d := atI_last [a, b, c] d
theorem eqS {a b : Str} : eqD (PyData.str a) b = decide (a = b) := eqD_dec (α := Str)
theorem eqS' {a b : Str} : eqD (PyData.str a) (PyData.str b) = decide (a = b) := eqD_dec (α := Str)
theorem eqI' {a b : Int} : eqD (PyData.int a) (PyData.int b) = decide (a = b) := eqD_dec (α := Int)
theorem okW {a : Str} (h : PyData.strOk a = true) : okD a := okD_of (α := Str) h
theorem okId {a : Int} : okD (PyData.int a) = True := eq_true (okD_pl (α := Int) a)
theorem neW : ¬ (("number" : Str) = "box") ∧ ¬ (("number" : Str) = "plus") ∧ ¬ (("number" : Str) = "minus") ∧ ¬ (("box" : Str) = "number") ∧ ¬ (("box" : Str) = "plus") ∧ ¬ (("box" : Str) = "minus") ∧ ¬ (("plus" : Str) = "number") ∧ ¬ (("plus" : Str) = "box") ∧ ¬ (("plus" : Str) = "minus") ∧ ¬ (("minus" : Str) = "number") ∧ ¬ (("minus" : Str) = "box") ∧ ¬ (("minus" : Str) = "plus") ∧ ¬ (("load" : Str) = "store") ∧ ¬ (("load" : Str) = "swap") ∧ ¬ (("load" : Str) = "let") ∧ ¬ (("load" : Str) = "say") ∧ ¬ (("load" : Str) = "go") ∧ ¬ (("load" : Str) = "unless") ∧ ¬ (("store" : Str) = "load") ∧ ¬ (("store" : Str) = "swap") ∧ ¬ (("store" : Str) = "let") ∧ ¬ (("store" : Str) = "say") ∧ ¬ (("store" : Str) = "go") ∧ ¬ (("store" : Str) = "unless") ∧ ¬ (("swap" : Str) = "load") ∧ ¬ (("swap" : Str) = "store") ∧ ¬ (("swap" : Str) = "let") ∧ ¬ (("swap" : Str) = "say") ∧ ¬ (("swap" : Str) = "go") ∧ ¬ (("swap" : Str) = "unless") ∧ ¬ (("let" : Str) = "load") ∧ ¬ (("let" : Str) = "store") ∧ ¬ (("let" : Str) = "swap") ∧ ¬ (("let" : Str) = "say") ∧ ¬ (("let" : Str) = "go") ∧ ¬ (("let" : Str) = "unless") ∧ ¬ (("say" : Str) = "load") ∧ ¬ (("say" : Str) = "store") ∧ ¬ (("say" : Str) = "swap") ∧ ¬ (("say" : Str) = "let") ∧ ¬ (("say" : Str) = "go") ∧ ¬ (("say" : Str) = "unless") ∧ ¬ (("go" : Str) = "load") ∧ ¬ (("go" : Str) = "store") ∧ ¬ (("go" : Str) = "swap") ∧ ¬ (("go" : Str) = "let") ∧ ¬ (("go" : Str) = "say") ∧ ¬ (("go" : Str) = "unless") ∧ ¬ (("unless" : Str) = "load") ∧ ¬ (("unless" : Str) = "store") ∧ ¬ (("unless" : Str) = "swap") ∧ ¬ (("unless" : Str) = "let") ∧ ¬ (("unless" : Str) = "say") ∧ ¬ (("unless" : Str) = "go") ∧ ¬ (("=" : Str) = "<") ∧ ¬ (("<" : Str) = "=") ∧ ¬ (("waits" : Str) = "ends") ∧ ¬ (("waits" : Str) = "lost") ∧ ¬ (("waits" : Str) = "") ∧ ¬ (("ends" : Str) = "waits") ∧ ¬ (("ends" : Str) = "lost") ∧ ¬ (("ends" : Str) = "") ∧ ¬ (("lost" : Str) = "waits") ∧ ¬ (("lost" : Str) = "ends") ∧ ¬ (("lost" : Str) = "") ∧ ¬ (("" : Str) = "waits") ∧ ¬ (("" : Str) = "ends") ∧ ¬ (("" : Str) = "lost") := by
  refine ⟨?_, ?_, ?_, ?_, ?_, ?_, ?_, ?_, ?_, ?_, ?_, ?_, ?_, ?_, ?_, ?_, ?_, ?_, ?_, ?_, ?_, ?_, ?_, ?_, ?_, ?_, ?_, ?_, ?_, ?_, ?_, ?_, ?_, ?_, ?_, ?_, ?_, ?_, ?_, ?_, ?_, ?_, ?_, ?_, ?_, ?_, ?_, ?_, ?_, ?_, ?_, ?_, ?_, ?_, ?_, ?_, ?_, ?_, ?_, ?_, ?_, ?_, ?_, ?_, ?_, ?_, ?_, ?_⟩ <;> decide +kernel
theorem frSd {a : Str} : (Fr.fr (PyData.str a) : Option Str) = some a := rfl
theorem frId {a : Int} : (Fr.fr (PyData.int a) : Option Int) = some a := rfl
theorem okA : okD (PyData.str "number") = True ∧ okD ("number" : Str) = True ∧ okD (PyData.str "box") = True ∧ okD ("box" : Str) = True ∧ okD (PyData.str "plus") = True ∧ okD ("plus" : Str) = True ∧ okD (PyData.str "minus") = True ∧ okD ("minus" : Str) = True ∧ okD (PyData.str "load") = True ∧ okD ("load" : Str) = True ∧ okD (PyData.str "store") = True ∧ okD ("store" : Str) = True ∧ okD (PyData.str "swap") = True ∧ okD ("swap" : Str) = True ∧ okD (PyData.str "let") = True ∧ okD ("let" : Str) = True ∧ okD (PyData.str "say") = True ∧ okD ("say" : Str) = True ∧ okD (PyData.str "go") = True ∧ okD ("go" : Str) = True ∧ okD (PyData.str "unless") = True ∧ okD ("unless" : Str) = True ∧ okD (PyData.str "waits") = True ∧ okD ("waits" : Str) = True ∧ okD (PyData.str "ends") = True ∧ okD ("ends" : Str) = True ∧ okD (PyData.str "lost") = True ∧ okD ("lost" : Str) = True ∧ okD (PyData.str "=") = True ∧ okD ("=" : Str) = True ∧ okD (PyData.str "<") = True ∧ okD ("<" : Str) = True := by
  refine ⟨?_, ?_, ?_, ?_, ?_, ?_, ?_, ?_, ?_, ?_, ?_, ?_, ?_, ?_, ?_, ?_, ?_, ?_, ?_, ?_, ?_, ?_, ?_, ?_, ?_, ?_, ?_, ?_, ?_, ?_, ?_, ?_⟩ <;> exact eq_true (okW (by decide +kernel))
/-! ### alike -/
theorem okP_n : okP .none := fun _ h => by cases h
theorem okP_s {x : Str} : okP (.str x) := fun _ h => by cases h
theorem okP_i {x : Int} : okP (.int x) := fun _ h => by cases h
theorem okP_l {x : List PyData} : okP (.list x) := fun _ h => by cases h
theorem okP_t {x : List PyData} : okP (.tuple x) := fun _ h => by cases h
theorem okPn : okP .none = True := eq_true okP_n
theorem okPs {x : Str} : okP (.str x) = True := eq_true okP_s
theorem okPi {x : Int} : okP (.int x) = True := eq_true okP_i
theorem okPl {x : List PyData} : okP (.list x) = True := eq_true okP_l
theorem okPt {x : List PyData} : okP (.tuple x) = True := eq_true okP_t
theorem isP_il {x : Int} : isP (.int x) "list" = false := by show (kitB "int" "list").getD false = false; decide +kernel
theorem isP_it {x : Int} : isP (.int x) "tuple" = false := by show (kitB "int" "tuple").getD false = false; decide +kernel
theorem isP_is {x : Int} : isP (.int x) "str" = false := by show (kitB "int" "str").getD false = false; decide +kernel
theorem isP_ii {x : Int} : isP (.int x) "int" = true := by show (kitB "int" "int").getD false = true; decide +kernel
theorem isP_ib {x : Int} : isP (.int x) "bool" = false := by show (kitB "int" "bool").getD false = false; decide +kernel
theorem isP_sl {x : Str} : isP (.str x) "list" = false := by show (kitB "str" "list").getD false = false; decide +kernel
theorem isP_st {x : Str} : isP (.str x) "tuple" = false := by show (kitB "str" "tuple").getD false = false; decide +kernel
theorem isP_ss {x : Str} : isP (.str x) "str" = true := by show (kitB "str" "str").getD false = true; decide +kernel
theorem isP_sb {x : Str} : isP (.str x) "bool" = false := by show (kitB "str" "bool").getD false = false; decide +kernel
theorem isP_nl : isP .none "list" = false := by show (kitB "NoneType" "list").getD false = false; decide +kernel
theorem isP_nt : isP .none "tuple" = false := by show (kitB "NoneType" "tuple").getD false = false; decide +kernel
theorem isP_ll {x : List PyData} : isP (.list x) "list" = true := by show (kitB "list" "list").getD false = true; decide +kernel
theorem isP_lt {x : List PyData} : isP (.list x) "tuple" = false := by show (kitB "list" "tuple").getD false = false; decide +kernel
theorem isP_tl {x : List PyData} : isP (.tuple x) "list" = false := by show (kitB "tuple" "list").getD false = false; decide +kernel
theorem isP_tt {x : List PyData} : isP (.tuple x) "tuple" = true := by show (kitB "tuple" "tuple").getD false = true; decide +kernel
/-- data that is compared in n steps -/
inductive Gd : Nat → PyData → Prop
  | int {n : Nat} (x : Int) : Gd (n + 1) (.int x)
  | str {n : Nat} (x : Str) (h : PyData.strOk x = true) : Gd (n + 1) (.str x)
  | non {n : Nat} : Gd (n + 1) .none
  | lst {n : Nat} {xs : List PyData} (l : xs.length ≤ 100000) (h : ∀ x ∈ xs, Gd n x) : Gd (n + 1) (.list xs)
  | tup {n : Nat} {xs : List PyData} (l : xs.length ≤ 100000) (h : ∀ x ∈ xs, Gd n x) : Gd (n + 1) (.tuple xs)
theorem Gd.up {n : Nat} {d : PyData} (h : Gd n d) : Gd (n + 1) d := by
  induction h with
  | int x => exact .int x
  | str x h => exact .str x h
  | non => exact .non
  | lst l h ih => exact .lst l ih
  | tup l h ih => exact .tup l ih
theorem zip_self {α : Type} : ∀ {xs : List α} {p : α × α}, p ∈ xs.zip xs → p.1 = p.2 ∧ p.1 ∈ xs
  | [], p, h => by cases h
  | x :: xs, p, h => by
    rw [List.zip_cons_cons] at h
    rcases List.mem_cons.mp h with rfl | h
    · exact ⟨rfl, List.mem_cons_self⟩
    · exact ⟨(zip_self h).1, List.mem_cons_of_mem _ (zip_self h).2⟩
theorem all_true {n : Nat} : (List.map (fun _ => true) (List.range n)).all id = true := by simp
theorem alike_self {n : Nat} {d : PyData} (g : Gd n d) : ∀ {Φ : Bool → Prop}, Φ true → (m_law_alike_R n d d).run Φ := by
  induction g with
  | int x =>
    intro Φ k
    unfold m_law_alike_R
    simp only [run_bind, run_rt, run_guard, run_if, isP_il, isP_it, isP_ii, isP_ib, isP_is, pyNone, okPi, okId, eqI', Bool.false_eq_true, if_false, if_true, Bool.not_false, true_and, decide_true]
    exact k
  | str x h =>
    intro Φ k
    unfold m_law_alike_R
    simp only [run_bind, run_rt, run_guard, run_if, isP_sl, isP_st, isP_sb, isP_ss, pyNone, okPs, eqS', Bool.false_eq_true, if_false, if_true, Bool.not_false, true_and, decide_true]
    exact ⟨⟨okW h, okW h⟩, k⟩
  | non =>
    intro Φ k
    unfold m_law_alike_R
    simp only [run_bind, run_rt, run_guard, run_if, isP_nl, isP_nt, pyNone, okPn, Bool.false_eq_true, if_false, if_true, true_and]
    exact k
  | @lst n xs l h ih =>
    intro Φ k
    unfold m_law_alike_R
    simp only [run_bind, run_rt, run_guard, run_if, run_opt, isP_ll, isP_lt, pyNone, okPl, Bool.false_eq_true, if_false, if_true, true_and, decide_true, Bool.not_true, Z.pyLen, pyZip, Option.some.injEq, exists_eq_left']
    refine compG_wp (fun _ => true) (fun _ => true) (small (by rw [List.length_zip]; omega)) (fun _ _ Ψ q => by exact q) (fun p hp _ Ψ q => ?_) ?_
    · obtain ⟨x, y⟩ := p
      obtain ⟨e, m⟩ := zip_self hp
      dsimp only at e m
      subst e
      exact ih x m q
    · have : (List.map (fun _ : PyData × PyData => true) ((xs.zip xs).filter fun _ => true)).all id = true := by simp
      rw [this]; exact k
  | @tup n xs l h ih =>
    intro Φ k
    unfold m_law_alike_R
    simp only [run_bind, run_rt, run_guard, run_if, run_opt, isP_tl, isP_tt, pyNone, okPt, Bool.false_eq_true, if_false, if_true, true_and, decide_true, Bool.not_true, Z.pyLen, pyZip, Option.some.injEq, exists_eq_left']
    refine compG_wp (fun _ => true) (fun _ => true) (small (by rw [List.length_zip]; omega)) (fun _ _ Ψ q => by exact q) (fun p hp _ Ψ q => ?_) ?_
    · obtain ⟨x, y⟩ := p
      obtain ⟨e, m⟩ := zip_self hp
      dsimp only at e m
      subst e
      exact ih x m q
    · have : (List.map (fun _ : PyData × PyData => true) ((xs.zip xs).filter fun _ => true)).all id = true := by simp
      rw [this]; exact k
theorem gd_ints {xs : List Int} (h : xs.length ≤ 100000) : Gd 6 (toPy xs) := by
  refine .lst (by rw [List.length_map]; exact h) fun x hx => ?_
  obtain ⟨y, _, rfl⟩ := List.mem_map.mp hx
  exact .int y
/-! ### the reel: N draws at most are behind it -/
structure RlOk (N : Nat) (r : WReel) : Prop where
  a : r.a.length ≤ 63
  b0 : 0 < r.b.length
  b1 : r.b.length ≤ 64
  b : ∀ x ∈ r.b, 0 ≤ x ∧ x < 1000003
  c0 : 0 ≤ r.c
  c1 : r.c ≤ N
  d0 : 0 ≤ r.d
  d1 : r.d < 2 ^ 127
theorem RlOk.mo {N N' : Nat} {r : WReel} (h : RlOk N r) (e : N ≤ N') : RlOk N' r := { h with c1 := Int.le_trans h.c1 (by omega) }
theorem cpw {i j : Int} (h : 0 ≤ j ∧ j ≤ 1000000 ∧ i.natAbs < 2 ^ 64 := by decide) : CPow i j := h
theorem great_eq : ((2 : Int) ^ ((64 : Int)).toNat) * ((2 : Int) ^ ((63 : Int)).toNat) - 1 = 170141183460469231731687303715884105727 := by decide +kernel
theorem p40_eq : (2 : Int) ^ ((40 : Int)).toNat = 1099511627776 := by decide +kernel
theorem p64m : CMulW ((2 : Int) ^ ((64 : Int)).toNat) ((2 : Int) ^ ((63 : Int)).toNat) := wide_mul (a := 65) (b := 64) (by decide +kernel) (by decide +kernel) (by decide) (by decide) (by decide)
theorem draw_wp {N : Nat} {r : WReel} {many : Int} {Φ : Int × WReel → Prop} (hr : RlOk N r) (hN : N < 2 ^ 60) (h0 : 0 < many) (hm : many < 2 ^ 60) (k : ∀ x r', 0 ≤ x → x < many → RlOk (N + 1) r' → Φ (x, r')) : (m_law_draw r many).run Φ := by
  obtain ⟨a, b, c, d⟩ := r
  obtain ⟨ha, hb0, hb1, hb, hc0, hc1, hd0, hd1⟩ := hr
  dsimp only at ha hb0 hb1 hb hc0 hc1 hd0 hd1
  have lo : ∀ x : Int, 0 ≤ x % many := fun x => Int.emod_nonneg _ (by omega)
  have hi : ∀ x : Int, x % many < many := fun x => Int.emod_lt_of_pos _ h0
  unfold m_law_draw
  simp only [run_bind, run_rt, run_guard, run_if, run_opt, decide_eq_true_eq]
  refine ⟨⟨okD_pl _, okD_pl _⟩, ?_⟩
  rw [eqD_dec]
  split
  · rename_i hne
    match a, hne, ha with
    | x :: as, _, ha =>
      refine ⟨x, at0, wide_div (b := 60) h0 (by omega) (by decide) (by decide), ?_, ?_, h0, ?_⟩
      · refine ⟨?_, ?_, small ?_⟩ <;> split <;> simp
      · refine small ?_
        rw [cut_from (by decide)]
        have e1 : (repL [x / many] (if x ≥ many then (1 : Int) else 0)).length ≤ 1 := by split <;> simp [repL]
        have e2 : (List.drop (1 : Int).toNat (x :: as)).length = as.length := by simp
        rw [e2]
        simp only [List.length_cons] at ha
        omega
      · refine k _ _ (lo _) (hi _) ⟨?_, hb0, hb1, hb, hc0, by dsimp only; omega, hd0, hd1⟩
        dsimp only
        rw [cut_from (by decide), List.length_append]
        have e1 : (repL [x / many] (if x ≥ many then (1 : Int) else 0)).length ≤ 1 := by split <;> simp [repL]
        have e2 : (List.drop (1 : Int).toNat (x :: as)).length = as.length := by simp
        rw [e2]
        simp only [List.length_cons] at ha
        omega
    | [], hne, _ => simp at hne
  · have o1 := Int.emod_nonneg (c + 1) (b := (b.length : Int)) (by omega)
    have o2 := Int.emod_lt_of_pos (c + 1) (b := (b.length : Int)) (by omega)
    obtain ⟨t, ht, et⟩ := atI_some (xs := b) o1 o2
    obtain ⟨t0, t1⟩ := hb t ht
    rw [great_eq, p40_eq]
    have q1 := Int.emod_nonneg (d * d + (t + 7) * 69621 + (c + 1) * 1000003) (b := 170141183460469231731687303715884105727) (by decide)
    have q2 := Int.emod_lt_of_pos (d * d + (t + 7) * 69621 + (c + 1) * 1000003) (b := 170141183460469231731687303715884105727) (by decide)
    refine ⟨by omega, t, et, wide_mul (a := 127) (b := 127) (by omega) (by omega) (by decide) (by decide) (by decide), wide_mul (a := 32) (b := 20) (by omega) (by decide) (by decide) (by decide) (by decide), wide_mul (a := 70) (b := 20) (by omega) (by decide) (by decide) (by decide) (by decide), cpw, cpw, p64m, by decide, cpw, wide_div (b := 60) (by decide) (by decide) (by decide) (by decide), h0, ?_⟩
    refine k _ _ (lo _) (hi _) ⟨ha, hb0, hb1, hb, by dsimp only; omega, by dsimp only; omega, q1, by dsimp only; omega⟩
theorem drawB_wp {N : Nat} {r : WReel} {many : Int} {Φ : Int × WReel → Prop} (hr : RlOk N r) (hN : N < 2 ^ 60) (h0 : 0 < many) (hm : many < 2 ^ 100) (k : ∀ x r', RlOk (N + 1) r' → Φ (x, r')) : (m_law_draw r many).run Φ := by
  obtain ⟨a, b, c, d⟩ := r
  obtain ⟨ha, hb0, hb1, hb, hc0, hc1, hd0, hd1⟩ := hr
  dsimp only at ha hb0 hb1 hb hc0 hc1 hd0 hd1
  have lo : ∀ x : Int, 0 ≤ x % many := fun x => Int.emod_nonneg _ (by omega)
  have hi : ∀ x : Int, x % many < many := fun x => Int.emod_lt_of_pos _ h0
  unfold m_law_draw
  simp only [run_bind, run_rt, run_guard, run_if, run_opt, decide_eq_true_eq]
  refine ⟨⟨okD_pl _, okD_pl _⟩, ?_⟩
  rw [eqD_dec]
  split
  · rename_i hne
    match a, hne, ha with
    | x :: as, _, ha =>
      refine ⟨x, at0, wide_div (b := 100) h0 (by omega) (by decide) (by decide), ?_, ?_, h0, ?_⟩
      · refine ⟨?_, ?_, small ?_⟩ <;> split <;> simp
      · refine small ?_
        rw [cut_from (by decide)]
        have e1 : (repL [x / many] (if x ≥ many then (1 : Int) else 0)).length ≤ 1 := by split <;> simp [repL]
        have e2 : (List.drop (1 : Int).toNat (x :: as)).length = as.length := by simp
        rw [e2]
        simp only [List.length_cons] at ha
        omega
      · refine k _ _ ⟨?_, hb0, hb1, hb, hc0, by dsimp only; omega, hd0, hd1⟩
        dsimp only
        rw [cut_from (by decide), List.length_append]
        have e1 : (repL [x / many] (if x ≥ many then (1 : Int) else 0)).length ≤ 1 := by split <;> simp [repL]
        have e2 : (List.drop (1 : Int).toNat (x :: as)).length = as.length := by simp
        rw [e2]
        simp only [List.length_cons] at ha
        omega
    | [], hne, _ => simp at hne
  · have o1 := Int.emod_nonneg (c + 1) (b := (b.length : Int)) (by omega)
    have o2 := Int.emod_lt_of_pos (c + 1) (b := (b.length : Int)) (by omega)
    obtain ⟨t, ht, et⟩ := atI_some (xs := b) o1 o2
    obtain ⟨t0, t1⟩ := hb t ht
    rw [great_eq, p40_eq]
    have q1 := Int.emod_nonneg (d * d + (t + 7) * 69621 + (c + 1) * 1000003) (b := 170141183460469231731687303715884105727) (by decide)
    have q2 := Int.emod_lt_of_pos (d * d + (t + 7) * 69621 + (c + 1) * 1000003) (b := 170141183460469231731687303715884105727) (by decide)
    refine ⟨by omega, t, et, wide_mul (a := 127) (b := 127) (by omega) (by omega) (by decide) (by decide) (by decide), wide_mul (a := 32) (b := 20) (by omega) (by decide) (by decide) (by decide) (by decide), wide_mul (a := 70) (b := 20) (by omega) (by decide) (by decide) (by decide) (by decide), cpw, cpw, p64m, by decide, cpw, wide_div (b := 100) (by decide) (by decide) (by decide) (by decide), h0, ?_⟩
    refine k _ _ ⟨ha, hb0, hb1, hb, by dsimp only; omega, by dsimp only; omega, q1, by dsimp only; omega⟩
theorem reel_wp {ns : List Int} {Φ : WReel → Prop} (k : ∀ r, RlOk 0 r → Φ r) : (m_law_reel ns).run Φ := by
  have hl : (Z.cut ns none (some (63 : Int))).length ≤ 63 := by rw [cut_to (by decide)]; simp; omega
  unfold m_law_reel
  simp only [run_bind, run_rt, run_guard]
  refine ⟨cpw, ?_⟩
  refine forL_wp (fun _ (s : Int) => 0 ≤ s ∧ s < 2 ^ 127) ⟨by decide +kernel, by decide +kernel⟩ ?_ ?_
  · rintro i x s _ ⟨s0, s1⟩
    unfold m_law_reel_L1
    simp only [run_bind, run_rt, run_guard]
    rw [great_eq]
    have q1 := Int.emod_nonneg (s * s + x % 1000000000000000003 + 11) (b := 170141183460469231731687303715884105727) (by decide)
    have q2 := Int.emod_lt_of_pos (s * s + x % 1000000000000000003 + 11) (b := 170141183460469231731687303715884105727) (by decide)
    exact ⟨wide_mul (a := 127) (b := 127) (by omega) (by omega) (by decide) (by decide) (by decide), cpw, cpw, p64m, by decide, q1, by omega⟩
  · rintro s ⟨s0, s1⟩
    unfold m_law_reel_R1
    simp only [run_bind, run_rt, run_guard]
    refine compG_wp (fun x => decide (x ≥ (10 : Int) ^ ((18 : Int)).toNat)) (fun x => x - (10 : Int) ^ ((18 : Int)).toNat) (small (by omega)) (fun x _ Ψ q => ⟨cpw, q⟩) (fun x _ _ Ψ q => ⟨cpw, q⟩) ?_
    refine compG_wp (fun x => true) (fun x => x % 1000003) (small (by omega)) (fun x _ Ψ q => q) (fun x _ _ Ψ q => q) ?_
    rw [List.filter_eq_self.mpr (fun _ _ => rfl)]
    refine ⟨small (by rw [List.length_map, List.length_cons, List.length_nil]; omega), k _ ⟨?_, ?_, ?_, ?_, Int.le_refl _, Int.le_refl _, s0, s1⟩⟩
    · dsimp only; rw [List.length_map]; exact Nat.le_trans (List.length_filter_le _ _) hl
    · dsimp only; rw [List.length_append, List.length_cons]; omega
    · dsimp only; rw [List.length_append, List.length_map, List.length_cons, List.length_nil]; omega
    · dsimp only
      intro x hx
      rcases List.mem_append.mp hx with h | h
      · obtain ⟨y, _, rfl⟩ := List.mem_map.mp h
        exact ⟨Int.emod_nonneg _ (by decide), Int.emod_lt_of_pos _ (by decide)⟩
      · rw [List.mem_singleton.mp h]; exact ⟨by decide, by decide⟩
end M

/-! # works: rows, values, a hand led on -/
namespace M
open PySem L2 Z
/-! ### boxes -/
def ltr (b : Nat) : Str := ⟨#[(("abcdefgh" : Str).cps.toList.getD b 0)]⟩
theorem chr_wp {i : Int} {Φ : Str → Prop} (h0 : 0 ≤ i) (h8 : i < 8) (k : Φ (ltr i.toNat)) : (chr ("abcdefgh" : Str) i).run Φ := by
  unfold chr
  simp only [run_guard, run_bind, run_opt, run_rt]
  refine ⟨by decide +kernel, _, atI_get' (a := (("abcdefgh" : Str).cps.toList.getD i.toNat 0)) h0 ?_, k⟩
  have hl : ("abcdefgh" : Str).cps.toList.length = 8 := by decide +kernel
  rw [List.getD_eq_getElem?_getD, List.getElem?_eq_getElem (by omega)]
  rfl
theorem ltr_ix : ∀ b : Fin 8, sIdx ("abcdefgh" : Str) (ltr b.val) = some (b.val : Int) := by decide +kernel
theorem ix_ltr {b : Nat} (h : b < 8) : sIdx ("abcdefgh" : Str) (ltr b) = some (b : Int) := ltr_ix ⟨b, h⟩
/-! ### what a row says -/
inductive Pln where
  | num (n : Int)
  | box (b : Nat)
def Pln.enc : Pln → PyData
  | .num n => .tuple [.str "number", .int n]
  | .box b => .tuple [.str "box", .str (ltr b)]
def Pln.ok : Pln → Prop
  | .num n => 0 ≤ n ∧ n < 1000
  | .box b => b < 8
def Pln.val (h : List Int) : Pln → Int
  | .num n => n
  | .box b => h.getD b 0
inductive Wth where
  | one (p : Pln)
  | plus (p q : Pln)
  | minus (p q : Pln)
def Wth.enc : Wth → PyData
  | .one p => p.enc
  | .plus p q => .tuple [.str "plus", p.enc, q.enc]
  | .minus p q => .tuple [.str "minus", p.enc, q.enc]
def Wth.ok : Wth → Prop
  | .one p => p.ok
  | .plus p q => p.ok ∧ q.ok
  | .minus p q => p.ok ∧ q.ok
def Wth.val (h : List Int) : Wth → Int
  | .one p => p.val h
  | .plus p q => (p.val h + q.val h) % 1000
  | .minus p q => (p.val h - q.val h) % 1000
theorem atN {l : List Int} {b : Nat} (h : b < l.length) : atI l (b : Int) = some (l.getD b 0) := by
  refine atI_nat ?_
  rw [List.getD_eq_getElem?_getD, List.getElem?_eq_getElem h]
  rfl
section
variable {h : List Int} {p : Pln} {w : Wth} {n : Nat} {Φ : Int → Prop}
end
/-! ### rows -/
inductive Rw where
  | load (b : Nat) (c : Nat)
  | store (c : Nat) (w : Wth)
  | swap (b : Nat) (c : Nat) (w : Wth)
  | lett (b : Nat) (w : Wth)
  | say (w : Wth)
  | go (t : Nat)
  | unless (lt : Bool) (w w' : Wth) (t : Nat)
def sgn (lt : Bool) : Str := if lt then "<" else "="
def Rw.enc : Rw → PyData
  | .load b c => .tuple [.str "load", .str (ltr b), .int c]
  | .store c w => .tuple [.str "store", .int c, w.enc]
  | .swap b c w => .tuple [.str "swap", .str (ltr b), .int c, w.enc]
  | .lett b w => .tuple [.str "let", .str (ltr b), w.enc]
  | .say w => .tuple [.str "say", w.enc]
  | .go t => .tuple [.str "go", .int t]
  | .unless lt w w' t => .tuple [.str "unless", .str (sgn lt), w.enc, w'.enc, .int t]
/-- for m cells and n rows -/
def Rw.ok (m n : Nat) : Rw → Prop
  | .load b c => b < 8 ∧ c < m
  | .store c w => c < m ∧ w.ok
  | .swap b c w => b < 8 ∧ c < m ∧ w.ok
  | .lett b w => b < 8 ∧ w.ok
  | .say w => w.ok
  | .go t => t ≤ n
  | .unless _ w w' t => w.ok ∧ w'.ok ∧ t ≤ n
def Rw.own : Rw → Bool
  | .load _ _ => false
  | .store _ _ => false
  | .swap _ _ _ => false
  | _ => true
/-- what a hand holds as it goes -/
structure HS where
  pos : Nat
  held : List Int
  said : List Int
def stp (s : HS) : Rw → HS
  | .lett b w => { s with pos := s.pos + 1, held := s.held.set b (w.val s.held) }
  | .say w => { s with pos := s.pos + 1, said := s.said ++ [w.val s.held] }
  | .go t => { s with pos := t }
  | .unless lt w w' t => if (if lt then decide (w.val s.held < w'.val s.held) else decide (w.val s.held = w'.val s.held)) then { s with pos := s.pos + 1 } else { s with pos := t }
  | _ => s
def led : Nat → List Rw → HS → HS × Str
  | 0, rows, s => match rows[s.pos]? with
    | none => (s, "ends")
    | some r => if r.own then (s, "lost") else (s, "waits")
  | n + 1, rows, s => match rows[s.pos]? with
    | none => (s, "ends")
    | some r => if r.own then led n rows (stp s r) else (s, "waits")
structure HOk (n B : Nat) (s : HS) : Prop where
  pos : s.pos ≤ n
  held : s.held.length = 8
  said : s.said.length ≤ B
theorem HOk.mo {n B B' : Nat} {s : HS} (h : HOk n B s) (e : B ≤ B') : HOk n B' s := ⟨h.pos, h.held, Nat.le_trans h.said e⟩
theorem stp_ok {m n B : Nat} {s : HS} {r : Rw} (h : HOk n B s) (hp : s.pos < n) (ok : r.ok m n) : HOk n (B + 1) (stp s r) := by
  obtain ⟨h1, h2, h3⟩ := h
  cases r with
  | lett b w => exact ⟨hp, by simp [stp, h2], Nat.le_succ_of_le h3⟩
  | say w => exact ⟨hp, h2, by simp [stp]; exact h3⟩
  | go t => exact ⟨ok, h2, Nat.le_succ_of_le h3⟩
  | «unless» lt w w' t =>
    have q : ∀ c : Bool, HOk n (B + 1) (if c = true then { s with pos := s.pos + 1 } else { s with pos := t }) := fun c => by
      cases c
      · exact ⟨ok.2.2, h2, Nat.le_succ_of_le h3⟩
      · exact ⟨hp, h2, Nat.le_succ_of_le h3⟩
    exact q _
  | load b c => exact ⟨h1, h2, Nat.le_succ_of_le h3⟩
  | store c w => exact ⟨h1, h2, Nat.le_succ_of_le h3⟩
  | swap b c w => exact ⟨h1, h2, Nat.le_succ_of_le h3⟩
theorem at_rows {rows : List Rw} {i : Nat} {r : Rw} (h : rows[i]? = some r) : atI (rows.map Rw.enc) (i : Int) = some r.enc := atI_nat (by rw [List.getElem?_map, h]; rfl)
section
variable {m n B : Nat} {s : HS} {r : Rw} {rows : List Rw} {way : Str} {k : Int}
/-- a row's first word, and whether it is one's own -/
def Rw.word : Rw → Str
  | .load _ _ => "load"
  | .store _ _ => "store"
  | .swap _ _ _ => "swap"
  | .lett _ _ => "let"
  | .say _ => "say"
  | .go _ => "go"
  | .unless _ _ _ _ => "unless"
theorem word_ix (r : Rw) : pyIx r.enc (0 : Int) = some (.str r.word) := by cases r <;> exact at0
theorem word_own (r : Rw) : (r.word ∈ ([("let" : Str), ("say" : Str), ("go" : Str), ("unless" : Str)] : List Str)) = (r.own = true) := by
  cases r <;> simp only [Rw.word, Rw.own, List.mem_cons, List.not_mem_nil, neW, or_false, or_true, true_or, false_or, Bool.false_eq_true]
theorem word_touch (r : Rw) : (r.word ∈ ([("load" : Str), ("store" : Str), ("swap" : Str)] : List Str)) = (r.own = false) := by
  cases r <;> simp only [Rw.word, Rw.own, List.mem_cons, List.not_mem_nil, neW, or_false, or_true, true_or, false_or, Bool.true_eq_false]
def Rows (m n : Nat) (rows : List Rw) : Prop := rows.length = n ∧ ∀ r ∈ rows, r.ok m n
theorem rng_cons {a b : Int} (h : a < b) : rng a b = a :: rng (a + 1) b := by
  apply List.ext_getElem
  · rw [List.length_cons, rng_len, rng_len]; omega
  · intro i h1 h2
    cases i with
    | zero => simp [rng]
    | succ i => simp [rng]; omega
theorem rng_nil {a b : Int} (h : b ≤ a) : rng a b = [] := by
  apply List.length_eq_zero_iff.mp
  rw [rng_len]; omega
theorem led_ok : ∀ {f : Nat} {s : HS} {B : Nat}, HOk n B s → Rows m n rows → HOk n (B + f) (led f rows s).1 := by
  intro f
  induction f with
  | zero =>
    intro s B h hr
    unfold led
    split
    · exact h
    · split
      · exact h
      · exact h
  | succ f ih =>
    intro s B h hr
    unfold led
    split
    · exact h.mo (by omega)
    · rename_i r e
      split
      · have hp := (List.getElem?_eq_some_iff.mp e).1
        have := ih (stp_ok h (by have := hr.1; omega) (hr.2 _ (List.mem_of_getElem? e))) hr
        rw [Nat.add_assoc, Nat.add_comm 1 f] at this
        exact this
      · exact h.mo (by omega)
/-- a hand that waits, waits at a touch -/
theorem led_waits : ∀ {f : Nat} {s : HS}, (led f rows s).2 = "waits" → ∃ r, rows[(led f rows s).1.pos]? = some r ∧ r.own = false := by
  intro f
  induction f with
  | zero =>
    intro s e
    unfold led at e ⊢
    cases q : rows[s.pos]? with
    | none => simp only [q, neW] at e
    | some r =>
      cases d : r.own with
      | true => simp only [q, d, neW, if_true] at e
      | false => exact ⟨r, by simp only [d, q, Bool.false_eq_true, if_false], d⟩
  | succ f ih =>
    intro s e
    unfold led at e ⊢
    cases q : rows[s.pos]? with
    | none => simp only [q, neW] at e
    | some r =>
      cases d : r.own with
      | true =>
        simp only [q, d, if_true] at e ⊢
        exact ih e
      | false => exact ⟨r, by simp only [d, q, Bool.false_eq_true, if_false], d⟩
theorem led_word : ∀ {f : Nat} {s : HS}, (led f rows s).2 = "waits" ∨ (led f rows s).2 = "ends" ∨ (led f rows s).2 = "lost" := by
  intro f
  induction f with
  | zero =>
    intro s
    unfold led
    split
    · exact .inr (.inl rfl)
    · split
      · exact .inr (.inr rfl)
      · exact .inl rfl
  | succ f ih =>
    intro s
    unfold led
    split
    · exact .inr (.inl rfl)
    · split
      · exact ih
      · exact .inl rfl
end
end M

/-! # works: touches, turns, the beginning -/
namespace M
open PySem L2 Z
abbrev Tld := P4 Str Int (Option Int) (Option Int)
def tch (cells : List Int) (s : HS) : Rw → List Int × HS × Tld
  | .load b c => (cells, { s with pos := s.pos + 1, held := s.held.set b (cells.getD c 0) }, ⟨"load", c, some (cells.getD c 0), none⟩)
  | .store c w => (cells.set c (w.val s.held), { s with pos := s.pos + 1 }, ⟨"store", c, none, some (w.val s.held)⟩)
  | .swap b c w => (cells.set c (w.val s.held), { s with pos := s.pos + 1, held := s.held.set b (cells.getD c 0) }, ⟨"swap", c, some (cells.getD c 0), some (w.val s.held)⟩)
  | _ => (cells, s, ⟨"", 0, none, none⟩)
structure HT where
  rows : List Rw
  s : HS
  way : Str
structure PS where
  cells : List Int
  hands : List HT
  past : List Int
def PS.prog (p : PS) (m : Int) : Int × List (List PyData) := (m, p.hands.map fun h => h.rows.map Rw.enc)
def PS.next (p : PS) (k : Nat) (h : HT) (r : Rw) : PS :=
  { cells := (tch p.cells h.s r).1, hands := p.hands.set k ⟨h.rows, (led 60 h.rows (tch p.cells h.s r).2.1).1, (led 60 h.rows (tch p.cells h.s r).2.1).2⟩, past := p.past ++ [(k : Int)] }
structure HTOk (m B : Nat) (h : HT) : Prop where
  hs : HOk h.rows.length B h.s
  rows : Rows m h.rows.length h.rows
  wt : h.way = "waits" → ∃ r, h.rows[h.s.pos]? = some r ∧ r.own = false
  wd : h.way = "waits" ∨ h.way = "ends" ∨ h.way = "lost"
structure PSOk (m B : Nat) (p : PS) : Prop where
  cells : p.cells.length = m
  hands : ∀ h ∈ p.hands, HTOk m B h
  few : p.hands.length ≤ 8
  past : ∀ k ∈ p.past, 0 ≤ k ∧ k < p.hands.length
theorem HTOk.mo {m B B' : Nat} {h : HT} (o : HTOk m B h) (e : B ≤ B') : HTOk m B' h := { o with hs := o.hs.mo e }
theorem PSOk.mo {m B B' : Nat} {p : PS} (o : PSOk m B p) (e : B ≤ B') : PSOk m B' p := { o with hands := fun h hh => (o.hands h hh).mo e }
theorem tch_ok {m n B : Nat} {cells : List Int} {s : HS} {r : Rw} (h : HOk n B s) (hp : s.pos < n) : HOk n B (tch cells s r).2.1 := by
  obtain ⟨h1, h2, h3⟩ := h
  cases r with
  | load b c => exact ⟨hp, by simp [tch, h2], h3⟩
  | store c w => exact ⟨hp, h2, h3⟩
  | swap b c w => exact ⟨hp, by simp [tch, h2], h3⟩
  | _ => exact ⟨h1, h2, h3⟩
theorem tch_cells {cells : List Int} {s : HS} {r : Rw} : (tch cells s r).1.length = cells.length := by
  cases r <;> simp [tch]
theorem PSOk.next {m B : Nat} {p : PS} {k : Nat} {h : HT} {r : Rw} (o : PSOk m B p) (hk : p.hands[k]? = some h) (hr : h.rows[h.s.pos]? = some r) : PSOk m (B + 60) (p.next k h r) := by
  have oh := o.hands h (List.mem_of_getElem? hk)
  have hl := (List.getElem?_eq_some_iff.mp hk).1
  refine ⟨by unfold PS.next; dsimp only; rw [tch_cells]; exact o.cells, ?_, by unfold PS.next; dsimp only; rw [List.length_set]; exact o.few, ?_⟩
  · intro x hx
    rcases List.mem_or_eq_of_mem_set hx with hx | rfl
    · exact (o.hands x hx).mo (by omega)
    · exact ⟨led_ok (tch_ok (m := m) oh.hs (List.getElem?_eq_some_iff.mp hr).1) oh.rows, oh.rows, fun e => led_waits e, led_word⟩
  · intro x hx
    unfold PS.next
    dsimp only
    rw [List.length_set]
    rcases List.mem_append.mp hx with hx | hx
    · exact o.past x hx
    · rw [List.mem_singleton.mp hx]; exact ⟨by omega, by omega⟩
theorem cnt_snoc {past : List Int} {j k : Int} : cntZ (past ++ [k]) j = cntZ past j + (if k = j then 1 else 0) := by
  unfold cntZ
  rw [List.count_append, List.count_singleton]
  by_cases c : k = j
  · simp [c]
  · simp [c]
theorem setI_nat {α : Type} {xs : List α} {k : Nat} {x : α} (h : k < xs.length) : setI xs (k : Int) x = xs.set k x := by
  unfold setI
  rw [ixN_nat' (by omega) (by omega)]
  simp
section
variable {m B : Nat} {p : PS} {k : Nat} {h : HT} {r : Rw} {way : Str}
theorem getD_set {l : List Int} {c : Nat} {x : Int} (h : c < l.length) : (l.set c x).getD c 0 = x := by
  rw [List.getD_eq_getElem?_getD, List.getElem?_set]
  simp [h]
end
/-! ### the beginning -/
def beg (cells : List Int) (rs : List (List Rw)) : PS := ⟨cells, rs.map fun rows => ⟨rows, (led 60 rows ⟨0, List.replicate 8 0, []⟩).1, (led 60 rows ⟨0, List.replicate 8 0, []⟩).2⟩, []⟩
theorem mapL_wp {β : Type} {c : β → W (Unit × β)} (f : β → β) : ∀ {xs : List β} {Φ : List β → Prop}, (∀ x ∈ xs, ∀ Ψ : Unit × β → Prop, Ψ ((), f x) → (c x).run Ψ) → Φ (xs.map f) → (mapL xs c).run Φ
  | [], Φ, _, q => q
  | x :: xs, Φ, hc, q => by
    unfold mapL
    rw [run_bind]
    refine hc x List.mem_cons_self _ ?_
    rw [run_bind]
    refine mapL_wp f (fun y hy => hc y (List.mem_cons_of_mem _ hy)) ?_
    exact q
theorem rep8 : repL ([(0 : Int)] : List Int) (8 : Int) = List.replicate 8 0 := by decide
theorem len8 : ((("abcdefgh" : Str)).length : Int) = 8 := by decide +kernel
theorem hs0_ok {n : Nat} : HOk n 0 ⟨0, List.replicate 8 0, []⟩ := ⟨Nat.zero_le _, rfl, Nat.le_refl _⟩
def RsOk (m : Nat) (rs : List (List Rw)) : Prop := rs.length ≤ 8 ∧ ∀ rows ∈ rs, Rows m rows.length rows
theorem beg_ok {m : Nat} {cells : List Int} {rs : List (List Rw)} (hc : cells.length = m) (h : RsOk m rs) : PSOk m 60 (beg cells rs) := by
  refine ⟨hc, fun x hx => ?_, by unfold beg; dsimp only; rw [List.length_map]; exact h.1, fun k hk => by cases hk⟩
  obtain ⟨rows, hr, rfl⟩ := List.mem_map.mp hx
  refine ⟨?_, h.2 rows hr, fun e => led_waits e, led_word⟩
  have := led_ok (f := 60) (hs0_ok (n := rows.length)) (h.2 rows hr)
  rw [Nat.zero_add] at this
  exact this
section
variable {m : Nat} {cells : List Int} {rs : List (List Rw)}
end
end M

/-! # works: programs drawn by a reel; what is told -/
namespace M
open PySem L2 Z
section
variable {N : Nat} {r : WReel}
theorem chrS : ∀ {i : Int} {Φ : Str → Prop}, 0 ≤ i → i < 2 → (∀ lt, Φ (sgn lt)) → (chr ("=<" : Str) i).run Φ := by
  intro i Φ h0 h1 q
  unfold chr
  simp only [run_guard, run_bind, run_opt, run_rt]
  refine ⟨by decide +kernel, ?_⟩
  by_cases c : i = 0
  · subst c
    exact ⟨61, by decide +kernel, q false⟩
  · obtain rfl : i = 1 := by omega
    exact ⟨60, by decide +kernel, q true⟩
theorem at_in {α : Type} {xs : List α} {i : Int} (h0 : 0 ≤ i) (h : i < xs.length) (P : α → Prop) (hp : ∀ x ∈ xs, P x) : ∃ a, atI xs i = some a ∧ P a := by
  obtain ⟨a, m, e⟩ := atI_some h0 h
  exact ⟨a, e, hp a m⟩
def NbOk (m : Nat) (nb : Option (List Int)) : Prop := ∀ l, nb = some l → l.length = m ∧ ∀ x ∈ l, 0 ≤ x ∧ x < 1000
def nums (m : Nat) : Option (List Int) → List Int
  | none => List.replicate m 0
  | some l => l
theorem nums_len {m : Nat} {nb : Option (List Int)} (h : NbOk m nb) : (nums m nb).length = m := by
  cases nb with
  | none => exact List.length_replicate
  | some l => exact (h l rfl).1
end
/-! ### what is told -/
section
variable {m B : Nat} {p : PS} {k : Nat} {h : HT}
def cnts (p : PS) : List Int := (List.range p.hands.length).map fun k : Nat => cntZ p.past (k : Int)
theorem cnt_range {a : Nat} : ∀ n : Nat, (List.range n).count a = if a < n then 1 else 0
  | 0 => by simp
  | n + 1 => by
    rw [List.range_succ, List.count_append, cnt_range n, List.count_singleton]
    by_cases c : n = a
    · subst c; simp
    · have : (n == a) = false := by simp [c]
      simp only [this, Bool.false_eq_true, if_false]
      by_cases d : a < n
      · rw [if_pos d, if_pos (by omega)]
      · rw [if_neg d, if_neg (by omega)]
/-- all turns are some hand's -/
theorem sum_cnts : ∀ {past : List Int} {n : Nat}, (∀ k ∈ past, 0 ≤ k ∧ k < n) → ((List.range n).map fun k : Nat => cntZ past (k : Int)).sum = past.length := by
  intro past
  induction past with
  | nil =>
    intro n _
    have : ∀ l : List Nat, (l.map fun k : Nat => cntZ [] (k : Int)).sum = 0 := by
      intro l
      induction l with
      | nil => rfl
      | cons a l ih => rw [List.map_cons, List.sum_cons, ih]; rfl
    exact this _
  | cons x past ih =>
    intro n h
    have ihn := ih (n := n) (fun k hk => h k (List.mem_cons_of_mem _ hk))
    obtain ⟨x0, x1⟩ := h x List.mem_cons_self
    have e : ∀ (l : List Nat), ((l.map fun k : Nat => cntZ (x :: past) (k : Int)).sum : Int) = (l.map fun k : Nat => cntZ past (k : Int)).sum + ((l.count x.toNat : Nat) : Int) := by
      intro l
      induction l with
      | nil => simp
      | cons a l il =>
        rw [List.map_cons, List.sum_cons, List.map_cons, List.sum_cons, il, List.count_cons]
        have : cntZ (x :: past) (a : Int) = cntZ past (a : Int) + (if a == x.toNat then 1 else 0) := by
          unfold cntZ
          rw [List.count_cons]
          by_cases c : a = x.toNat
          · subst c
            have : (x == ((x.toNat : Nat) : Int)) = true := by simp; omega
            rw [this]
            simp
          · have c1 : (x == (a : Int)) = false := by simp; omega
            have c2 : (a == x.toNat) = false := by simp [c]
            rw [c1, c2]
            simp
        rw [this]
        split <;> simp <;> omega
    rw [e, ihn, cnt_range, if_pos (by omega), List.length_cons]
    omega
theorem gd_str {s : Str} (h : s = "waits" ∨ s = "ends" ∨ s = "lost") : Gd 6 (toPy s) := by
  rcases h with rfl | rfl | rfl <;> exact .str _ (by decide +kernel)
theorem gd_opt {o : Option Int} : Gd 5 (toPy o) := by
  cases o with
  | none => exact .non
  | some x => exact .int x
theorem gd_told {cells : List Int} {s : HS} {r : Rw} : Gd 6 (toPy (tch cells s r).2.2) := by
  refine .tup (by simp) fun x hx => ?_
  simp only [List.mem_cons, List.not_mem_nil, or_false] at hx
  have w : PyData.strOk (tch cells s r).2.2.a = true := by
    cases r <;> (unfold tch; dsimp only; decide +kernel)
  rcases hx with rfl | rfl | rfl | rfl
  · exact .str _ w
  · exact .int _
  · exact gd_opt
  · exact gd_opt
/-- which hands wait -/
def waitL (p : PS) : List Int := (rng 0 (p.hands.length : Int)).filter fun k => match p.hands[k.toNat]? with | some h => decide (h.way = "waits") | none => false
theorem waitL_mem {x : Int} (hx : x ∈ waitL p) : ∃ (k : Nat) (h : HT), x = k ∧ p.hands[k]? = some h ∧ h.way = "waits" := by
  unfold waitL at hx
  obtain ⟨h1, h2⟩ := List.mem_filter.mp hx
  obtain ⟨x0, x1⟩ := rng_mem.mp h1
  cases e : p.hands[x.toNat]? with
  | none => rw [e] at h2; cases h2
  | some h =>
    rw [e] at h2
    exact ⟨x.toNat, h, by omega, e, of_decide_eq_true h2⟩
theorem waitL_len : (waitL p).length ≤ p.hands.length := by
  unfold waitL
  refine Nat.le_trans (List.length_filter_le _ _) ?_
  rw [rng_len]; omega
theorem prog_next {r : Rw} {m' : Int} (ek : p.hands[k]? = some h) : (p.next k h r).prog m' = p.prog m' := by
  unfold PS.prog PS.next
  dsimp only
  congr 1
  rw [List.map_set]
  apply List.ext_getElem?
  intro j
  rw [List.getElem?_set, List.length_map]
  by_cases cj : k = j
  · subst cj
    have hkl := (List.getElem?_eq_some_iff.mp ek).1
    rw [if_pos rfl, if_pos hkl, List.getElem?_map, ek]
    rfl
  · rw [if_neg cj]
theorem next_past {r : Rw} : (p.next k h r).past.length = p.past.length + 1 := by unfold PS.next; dsimp only; rw [List.length_append]; rfl
theorem next_hands {r : Rw} : (p.next k h r).hands.length = p.hands.length := by unfold PS.next; dsimp only; rw [List.length_set]
end
end M

/-! # good data: == is = -/
namespace M
open PySem L2 Z
theorem layAll_of : ∀ {xs : List PyData}, (∀ x ∈ xs, x.canLay0 = true) → PyData.canLayAll0 xs = true
  | [], _ => by simp [PyData.canLayAll0]
  | x :: xs, h => by
    simp only [PyData.canLayAll0, Bool.and_eq_true]
    exact ⟨h x List.mem_cons_self, layAll_of fun y hy => h y (List.mem_cons_of_mem _ hy)⟩
theorem depAll_of {n : Nat} : ∀ {xs : List PyData}, (∀ x ∈ xs, x.depth ≤ n) → PyData.depthAll xs ≤ n
  | [], _ => by simp [PyData.depthAll]
  | x :: xs, h => by
    simp only [PyData.depthAll]
    exact Nat.max_le.mpr ⟨h x List.mem_cons_self, depAll_of fun y hy => h y (List.mem_cons_of_mem _ hy)⟩
theorem gd_shape {n : Nat} {d : PyData} (g : Gd n d) : d.canLay0 = true ∧ d.depth ≤ n := by
  induction g with
  | int x => exact ⟨by simp [PyData.canLay0], by simp [PyData.depth]⟩
  | str x h => exact ⟨by simpa [PyData.canLay0] using h, by simp [PyData.depth]⟩
  | non => exact ⟨by simp [PyData.canLay0], by simp [PyData.depth]⟩
  | lst l h ih =>
    refine ⟨?_, ?_⟩
    · simp only [PyData.canLay0]
      exact layAll_of fun x hx => (ih x hx).1
    · simp only [PyData.depth]
      exact Nat.succ_le_succ (depAll_of fun x hx => (ih x hx).2)
  | tup l h ih =>
    refine ⟨?_, ?_⟩
    · simp only [PyData.canLay0]
      exact layAll_of fun x hx => (ih x hx).1
    · simp only [PyData.depth]
      exact Nat.succ_le_succ (depAll_of fun x hx => (ih x hx).2)
theorem eqvAll_iff : ∀ {xs ys : List PyData}, (∀ x ∈ xs, ∀ y ∈ ys, (PyData.eqv x y = true ↔ x = y)) → (PyData.eqvAll xs ys = true ↔ xs = ys)
  | [], [], _ => by simp [PyData.eqvAll]
  | [], y :: ys, _ => by simp [PyData.eqvAll]
  | x :: xs, [], _ => by simp [PyData.eqvAll]
  | x :: xs, y :: ys, h => by
    simp only [PyData.eqvAll, Bool.and_eq_true, List.cons.injEq]
    rw [h x List.mem_cons_self y List.mem_cons_self, eqvAll_iff fun a ha b hb => h a (List.mem_cons_of_mem _ ha) b (List.mem_cons_of_mem _ hb)]
theorem gd_eqv {n : Nat} {x : PyData} (g : Gd n x) : ∀ {m : Nat} {y : PyData}, Gd m y → (PyData.eqv x y = true ↔ x = y) := by
  induction g with
  | int a => intro m y gy; cases gy <;> simp [PyData.eqv]
  | str a h => intro m y gy; cases gy <;> simp [PyData.eqv]
  | non => intro m y gy; cases gy <;> simp [PyData.eqv]
  | lst l h ih =>
    intro m y gy
    cases gy with
    | lst l' h' =>
      simp only [PyData.eqv, PyData.list.injEq]
      exact eqvAll_iff fun a ha b hb => ih a ha (h' b hb)
    | int a => simp [PyData.eqv]
    | str a h => simp [PyData.eqv]
    | non => simp [PyData.eqv]
    | tup l h => simp [PyData.eqv]
  | tup l h ih =>
    intro m y gy
    cases gy with
    | tup l' h' =>
      simp only [PyData.eqv, PyData.tuple.injEq]
      exact eqvAll_iff fun a ha b hb => ih a ha (h' b hb)
    | int a => simp [PyData.eqv]
    | str a h => simp [PyData.eqv]
    | non => simp [PyData.eqv]
    | lst l h => simp [PyData.eqv]
theorem Gd.le {n m : Nat} {d : PyData} (g : Gd n d) (h : n ≤ m) : Gd m d := by
  obtain ⟨k, rfl⟩ : ∃ k, m = n + k := ⟨m - n, by omega⟩
  clear h
  induction k with
  | zero => exact g
  | succ k ih => exact ih.up
section
variable {α β : Type} [Py α] [Py β] {x y : α} {z : β} {n m : Nat}
theorem okD_gd (g : Gd n (toPy x)) (h : n ≤ 64) : okD x := by
  unfold okD SeqAt.shaped
  obtain ⟨a, b⟩ := gd_shape g
  rw [a, decide_eq_true (Nat.le_trans b h)]
  rfl
theorem eqD_gd (g : Gd n (toPy x)) (g' : Gd m (toPy z)) : eqD x z = true ↔ toPy x = toPy z := gd_eqv g g'
theorem eqD_gs (g : Gd n (toPy x)) : eqD x x = true := (eqD_gd g g).mpr rfl
theorem gd_map {xs : List α} (l : xs.length ≤ 100000) (h : ∀ x ∈ xs, Gd n (toPy x)) : Gd (n + 1) (toPy xs) := by
  refine .lst (by rw [List.length_map]; exact l) fun y hy => ?_
  obtain ⟨x, hx, rfl⟩ := List.mem_map.mp hy
  exact h x hx
end
theorem gd_i {n : Nat} {x : Int} : Gd (n + 1) (toPy x) := .int x
theorem gd_is {n : Nat} {xs : List Int} (h : xs.length ≤ 100000) : Gd (n + 2) (toPy xs) := gd_map h fun _ _ => gd_i
/-! ### rows as data -/
theorem ltr_ok : ∀ b : Fin 8, PyData.strOk (ltr b.val) = true := by decide +kernel
theorem ltr_so {b : Nat} (h : b < 8) : PyData.strOk (ltr b) = true := ltr_ok ⟨b, h⟩
theorem ltr_inj8 : ∀ b c : Fin 8, ltr b.val = ltr c.val → b = c := by decide +kernel
theorem ltr_inj {b c : Nat} (hb : b < 8) (hc : c < 8) (e : ltr b = ltr c) : b = c := congrArg Fin.val (ltr_inj8 ⟨b, hb⟩ ⟨c, hc⟩ e)
theorem gd_t {n : Nat} {xs : List PyData} (l : xs.length ≤ 10) (h : ∀ x ∈ xs, Gd n x) : Gd (n + 1) (.tuple xs) := .tup (by omega) h
theorem all1 {P : PyData → Prop} {a : PyData} (ha : P a) : ∀ x ∈ [a], P x := by simpa using ha
theorem all2 {P : PyData → Prop} {a b : PyData} (ha : P a) (hb : P b) : ∀ x ∈ [a, b], P x := by simpa using ⟨ha, hb⟩
theorem all3 {P : PyData → Prop} {a b c : PyData} (ha : P a) (hb : P b) (hc : P c) : ∀ x ∈ [a, b, c], P x := by simpa using ⟨ha, hb, hc⟩
theorem all4 {P : PyData → Prop} {a b c d : PyData} (ha : P a) (hb : P b) (hc : P c) (hd : P d) : ∀ x ∈ [a, b, c, d], P x := by simpa using ⟨ha, hb, hc, hd⟩
theorem all5 {P : PyData → Prop} {a b c d e : PyData} (ha : P a) (hb : P b) (hc : P c) (hd : P d) (he : P e) : ∀ x ∈ [a, b, c, d, e], P x := by simpa using ⟨ha, hb, hc, hd, he⟩
theorem gd_pln {p : Pln} (ok : p.ok) : Gd 2 p.enc := by
  cases p with
  | num x => exact gd_t (by simp) (all2 (.str _ (by decide +kernel)) (.int _))
  | box b => exact gd_t (by simp) (all2 (.str _ (by decide +kernel)) (.str _ (ltr_so ok)))
theorem gd_wth {w : Wth} (ok : w.ok) : Gd 3 w.enc := by
  cases w with
  | one p => exact (gd_pln ok).up
  | plus p q => exact gd_t (by simp) (all3 (.str _ (by decide +kernel)) (gd_pln ok.1) (gd_pln ok.2))
  | minus p q => exact gd_t (by simp) (all3 (.str _ (by decide +kernel)) (gd_pln ok.1) (gd_pln ok.2))
theorem gd_row {m n : Nat} {r : Rw} (ok : r.ok m n) : Gd 4 r.enc := by
  cases r with
  | load b c => exact gd_t (by simp) (all3 (.str _ (by decide +kernel)) (.str _ (ltr_so ok.1)) (.int _))
  | store c w => exact gd_t (by simp) (all3 (.str _ (by decide +kernel)) (.int _) (gd_wth ok.2))
  | swap b c w => exact gd_t (by simp) (all4 (.str _ (by decide +kernel)) (.str _ (ltr_so ok.1)) (.int _) (gd_wth ok.2.2))
  | lett b w => exact gd_t (by simp) (all3 (.str _ (by decide +kernel)) (.str _ (ltr_so ok.1)) (gd_wth ok.2))
  | say w => exact gd_t (by simp) (all2 (.str _ (by decide +kernel)) (gd_wth ok))
  | go t => exact gd_t (by simp) (all2 (.str _ (by decide +kernel)) (.int _))
  | «unless» lt w w' t =>
    refine gd_t (by simp) (all5 (.str _ (by decide +kernel)) (.str _ ?_) (gd_wth ok.1) (gd_wth ok.2.1) (.int _))
    cases lt <;> decide +kernel
theorem gd_rows {m n : Nat} {rows : List Rw} (l : rows.length ≤ 100000) (ok : ∀ r ∈ rows, r.ok m n) : Gd 5 (toPy (rows.map Rw.enc)) := by
  refine gd_map (by rw [List.length_map]; exact l) fun x hx => ?_
  obtain ⟨r, hr, rfl⟩ := List.mem_map.mp hx
  exact gd_row (ok r hr)
end M

/-! # programs as texts: what a row's text is; both ways of writing it -/
namespace M
open PySem L2 Z
theorem txj (a : Str) (ys : List Str) : Txt.join a ys = Str.join a ys := StrLaws.glued_eq_join a ys
/-! ### numbers -/
theorem strI_len {i : Int} (h : 0 ≤ i ∧ i < 1900) : (strI i).length ≤ 4 := PyProof.Rows.toString_length_le h.1 (k := 4) (by decide) (by have := h.2; omega)
theorem strI_c {i : Int} (h : 0 ≤ i ∧ i < 1900) : CStr i := by
  unfold CStr
  have := Nat.log2_le_self i.natAbs
  have := h.1
  have := h.2
  omega
theorem strP_i {i : Int} {Φ : Str → Prop} (h : 0 ≤ i ∧ i < 1900) (q : Φ (strI i)) : (strP (.int i)).run Φ := by
  unfold strP
  rw [run_guard, run_opt]
  exact ⟨fun j e => by cases e; exact strI_c h, _, rfl, q⟩
theorem strP_s {s : Str} {Φ : Str → Prop} (q : Φ s) : (strP (.str s)).run Φ := by
  unfold strP
  rw [run_guard, run_opt]
  exact ⟨fun j e => (by cases e), _, rfl, q⟩
theorem fmtP_i {i : Int} {Φ : Str → Prop} (h : 0 ≤ i ∧ i < 1900) (q : Φ (strI i)) : (fmtP (.int i)).run Φ := by
  unfold fmtP
  rw [run_guard]
  exact ⟨fun s e => by (cases e), strP_i h q⟩
theorem fmtP_s {s : Str} {Φ : Str → Prop} (h : s.length ≤ 100000) (q : Φ s) : (fmtP (.str s)).run Φ := by
  unfold fmtP
  rw [run_guard]
  exact ⟨fun t e => by cases e; exact small h, strP_s q⟩
theorem ltr_len (b : Nat) : (ltr b).length = 1 := rfl
/-! ### what is written -/
def Pln.txt : Pln → Str
  | .num n => strI n
  | .box b => ltr b
def Wth.txt : Wth → Str
  | .one p => p.txt
  | .plus p q => p.txt ++ "+" ++ q.txt
  | .minus p q => p.txt ++ "-" ++ q.txt
def Rw.words : Rw → List Str
  | .load b c => ["load", ltr b, strI c]
  | .store c w => ["store", strI c, w.txt]
  | .swap b c w => ["swap", ltr b, strI c, w.txt]
  | .lett b w => ["let", ltr b, w.txt]
  | .say w => ["say", w.txt]
  | .go t => ["go", strI t]
  | .unless lt w w' t => ["unless", w.txt, sgn lt, w'.txt, "go", strI t]
def Rw.txt (r : Rw) : Str := Str.join " " r.words
def lines (m : Int) (rs : List (List Rw)) : List Str := ("cells " ++ strI m) :: rs.flatMap fun rows => "hand" :: rows.map Rw.txt
def progT (m : Int) (rs : List (List Rw)) : Str := Str.join "\n" (lines m rs)
/-! ### lengths -/
theorem len_plus : ("+" : Str).length = 1 := by decide +kernel
theorem len_minus : ("-" : Str).length = 1 := by decide +kernel
theorem len_sp : (" " : Str).length = 1 := by decide +kernel
theorem len_lf : ("\n" : Str).length = 1 := by decide +kernel
theorem len_cells : ("cells " : Str).length = 6 := by decide +kernel
theorem len_hand : ("hand" : Str).length = 4 := by decide +kernel
theorem len_unl : ("unless " : Str).length = 7 := by decide +kernel
theorem len_go : (" go " : Str).length = 4 := by decide +kernel
theorem len_emp : (Str.empty).length = 0 := rfl
theorem len_w : ("load" : Str).length = 4 ∧ ("store" : Str).length = 5 ∧ ("swap" : Str).length = 4 ∧ ("let" : Str).length = 3 ∧ ("say" : Str).length = 3 ∧ ("go" : Str).length = 2 ∧ ("unless" : Str).length = 6 := by decide +kernel
theorem sgn_len (lt : Bool) : (sgn lt).length = 1 := by cases lt <;> decide +kernel
theorem Pln.tlen {p : Pln} (ok : p.ok) : p.txt.length ≤ 4 := by
  cases p with
  | num n => exact strI_len ⟨ok.1, by have := ok.2; omega⟩
  | box b => show (ltr b).length ≤ 4; rw [ltr_len]; decide
theorem Wth.tlen {w : Wth} (ok : w.ok) : w.txt.length ≤ 9 := by
  cases w with
  | one p => have := Pln.tlen ok; show p.txt.length ≤ 9; omega
  | plus p q =>
    have := Pln.tlen ok.1
    have := Pln.tlen ok.2
    show (p.txt ++ "+" ++ q.txt).length ≤ 9
    rw [Str.length_append, Str.length_append, len_plus]; omega
  | minus p q =>
    have := Pln.tlen ok.1
    have := Pln.tlen ok.2
    show (p.txt ++ "-" ++ q.txt).length ≤ 9
    rw [Str.length_append, Str.length_append, len_minus]; omega
theorem sumle {l : List Str} {b : Nat} (h : ∀ x ∈ l, x.length ≤ b) : (l.map (·.length)).sum ≤ l.length * b := by
  induction l with
  | nil => simp
  | cons x l ih =>
    have := ih fun y hy => h y (List.mem_cons_of_mem _ hy)
    have := h x List.mem_cons_self
    rw [List.map_cons, List.sum_cons, List.length_cons, Nat.succ_mul]
    omega
theorem joinOk {a : Str} {l : List Str} {n b : Nat} (h1 : a.length ≤ 1) (hl : l.length ≤ n) (h : ∀ x ∈ l, x.length ≤ b) (hn : n * (b + 1) ≤ 16777216) : JoinG a l := by
  have := sumle h
  have e : l.length * a.length ≤ l.length * 1 := Nat.mul_le_mul_left _ h1
  have e2 : l.length * (b + 1) ≤ n * (b + 1) := Nat.mul_le_mul_right _ hl
  rw [Nat.mul_succ] at e2
  unfold JoinG
  omega
section
variable {p : Pln} {w : Wth} {r : Rw} {m n k : Nat} {Φ : Str → Prop}
theorem wlen (ok : r.ok m n) (hm : m ≤ 1000) (hn : n ≤ 1000) : r.words.length ≤ 6 ∧ ∀ x ∈ r.words, x.length ≤ 9 := by
  have ni : ∀ {c : Nat}, c ≤ 1000 → (strI (c : Int)).length ≤ 9 := fun {c} h => by have := strI_len (i := (c : Int)) ⟨by omega, by omega⟩; omega
  have nb : ∀ b, (ltr b).length ≤ 9 := fun b => by rw [ltr_len]; decide
  have nw : ∀ {w : Wth}, w.ok → w.txt.length ≤ 9 := Wth.tlen
  obtain ⟨l1, l2, l3, l4, l5, l6, l7⟩ := len_w
  have mem : ∀ {P : Str → Prop} {l : List Str}, (∀ x ∈ l, P x) → ∀ {y}, P y → ∀ x ∈ y :: l, P x := fun h _ hy => List.forall_mem_cons.mpr ⟨hy, h⟩
  have nil : ∀ x ∈ ([] : List Str), x.length ≤ 9 := fun x hx => by cases hx
  cases r with
  | load b c => exact ⟨Nat.le_of_ble_eq_true rfl, mem (mem (mem nil (ni (by have := ok.2; omega))) (nb b)) (by rw [l1]; decide)⟩
  | store c w => exact ⟨Nat.le_of_ble_eq_true rfl, mem (mem (mem nil (nw ok.2)) (ni (by have := ok.1; omega))) (by rw [l2]; decide)⟩
  | swap b c w => exact ⟨Nat.le_of_ble_eq_true rfl, mem (mem (mem (mem nil (nw ok.2.2)) (ni (by have := ok.2.1; omega))) (nb b)) (by rw [l3]; decide)⟩
  | lett b w => exact ⟨Nat.le_of_ble_eq_true rfl, mem (mem (mem nil (nw ok.2)) (nb b)) (by rw [l4]; decide)⟩
  | say w => exact ⟨Nat.le_of_ble_eq_true rfl, mem (mem nil (nw ok)) (by rw [l5]; decide)⟩
  | go t => exact ⟨Nat.le_of_ble_eq_true rfl, mem (mem nil (ni (show t ≤ 1000 from Nat.le_trans ok hn))) (by rw [l6]; decide)⟩
  | «unless» lt w w' t => exact ⟨Nat.le_of_ble_eq_true rfl, mem (mem (mem (mem (mem (mem nil (ni (Nat.le_trans ok.2.2 hn))) (by rw [l6]; decide)) (nw ok.2.1)) (by rw [sgn_len]; decide)) (nw ok.1)) (by rw [l7]; decide)⟩
theorem wjoin (ok : r.ok m n) (hm : m ≤ 1000) (hn : n ≤ 1000) : JoinG (" " : Str) r.words := joinOk (n := 6) (b := 9) (by rw [len_sp]; exact Nat.le_refl _) (wlen ok hm hn).1 (wlen ok hm hn).2 (by decide)
theorem tlen (ok : r.ok m n) (hm : m ≤ 1000) (hn : n ≤ 1000) : r.txt.length ≤ 60 := by
  have h := StrLaws.join_length_le (" " : Str) r.words
  have h1 := (wlen ok hm hn).1
  have h2 := sumle (wlen ok hm hn).2
  rw [len_sp] at h
  unfold Rw.txt
  have : r.words.length * 9 ≤ 6 * 9 := Nat.mul_le_mul_right _ h1
  omega
/-! ### show_worth, show_row -/
theorem sl {x : Nat} (h : x ≤ 1000) : x ≤ sizeLine := small (by omega)
theorem frAll_py : ∀ xs : List PyData, frAll PyData xs = some xs
  | [] => rfl
  | x :: xs => by
    unfold frAll
    rw [frAll_py xs]
    rfl
theorem fr_tp {xs : List PyData} : (Fr.fr (PyData.tuple xs) : Option (Tp PyData)) = some ⟨xs⟩ := by
  show (frAll PyData xs).map Tp.mk = _
  rw [frAll_py]
  rfl
theorem cut1 {α : Type} {x : α} {xs : List α} : Z.cut (x :: xs) (some (1 : Int)) none = xs := by
  rw [Z.cut_from (by decide)]
  rfl
theorem kv_of : kvS dct_FORMS ("load" : Str) = some ("bn" : Str) ∧ kvS dct_FORMS ("store" : Str) = some ("nw" : Str) ∧ kvS dct_FORMS ("swap" : Str) = some ("bnw" : Str) ∧ kvS dct_FORMS ("let" : Str) = some ("bw" : Str) ∧ kvS dct_FORMS ("say" : Str) = some ("w" : Str) ∧ kvS dct_FORMS ("go" : Str) = some ("n" : Str) := by decide +kernel
theorem ch_of : chS "bn" = ([("b" : Str), "n"] : List Str) ∧ chS "nw" = ([("n" : Str), "w"] : List Str) ∧ chS "bnw" = ([("b" : Str), "n", "w"] : List Str) ∧ chS "bw" = ([("b" : Str), "w"] : List Str) ∧ chS "w" = ([("w" : Str)] : List Str) ∧ chS "n" = ([("n" : Str)] : List Str) := by decide +kernel
theorem ne_w : (("b" : Str) = "w") = False ∧ (("n" : Str) = "w") = False := by decide +kernel
theorem join2 {a x y : Str} {l : List Str} : Str.join a (x :: y :: l) = x ++ a ++ Str.join a (y :: l) := rfl
theorem join1 {a x : Str} : Str.join a [x] = x := rfl
theorem apd_cons {x : Str} {l : List Str} : ∀ {Ψ : List Str → Prop}, l.length ≤ 100000 → Ψ (l ++ [x]) → (apd l x).run Ψ := fun h k => apd_wp h k
end
end M

/-! # words read: numbers, boxes, sums and differences -/
namespace M
open PySem L2 Z
theorem s_tl (w : Str) : SX.S (TL.tl w) = w := TL.mk_tl w
theorem tl_S (l : List Nat) : TL.tl (SX.S l) = l := rfl
theorem len_tl (w : Str) : w.length = (TL.tl w).length := by
  have := SX.S_len (TL.tl w)
  rw [s_tl] at this
  exact this
theorem strI_S (n : Nat) : strI (n : Int) = SX.S (TL.numL n) := SX.num_S n
theorem tl_num (n : Nat) : TL.tl (strI (n : Int)) = TL.numL n := by rw [strI_S]
theorem strI_inj {a b : Nat} (h : strI (a : Int) = strI (b : Int)) : a = b := TL.numL_inj ((tl_num a).symm.trans ((congrArg TL.tl h).trans (tl_num b)))
theorem num_head : ∀ {n : Nat}, 0 < n → ∃ d ds, TL.numL n = d :: ds ∧ 48 < d := by
  intro n
  induction n using Nat.strongRecOn with
  | _ n ih =>
    intro h
    by_cases c : n < 10
    · exact ⟨48 + n, [], TL.numL_lt c, by omega⟩
    · obtain ⟨d, ds, e, hd⟩ := ih (n / 10) (by omega) (by omega)
      exact ⟨d, ds ++ [48 + n % 10], by rw [TL.numL_step (by omega), e]; rfl, hd⟩
theorem numL_3 {n : Nat} (h : n < 1000) : 0 < (TL.numL n).length ∧ (TL.numL n).length ≤ 3 := ⟨List.length_pos_iff.mpr (TL.numL_ne n), TL.numL_len (k := 3) (by decide) (by omega)⟩
/-- one to three figures, the first one no 0 among others -/
def isNumL (l : List Nat) : Prop := 0 < l.length ∧ l.length ≤ 3 ∧ (1 < l.length → l.head? ≠ some 48) ∧ ∀ c ∈ l, 48 ≤ c ∧ c ≤ 57
theorem isNum_num {n : Nat} (h : n < 1000) : isNumL (TL.numL n) := by
  obtain ⟨h1, h2⟩ := numL_3 h
  refine ⟨h1, h2, fun hl e => ?_, fun c hc => TL.numL_digits n c hc⟩
  by_cases c : n < 10
  · rw [TL.numL_lt c] at hl
    simp at hl
  · obtain ⟨d, ds, e', hd⟩ := num_head (n := n) (by omega)
    rw [e'] at e
    cases e
    omega
theorem num_isNum {l : List Nat} (h : isNumL l) : ∃ n, n < 1000 ∧ l = TL.numL n := by
  obtain ⟨h1, h2, h3, h4⟩ := h
  have one : ∀ a, 48 ≤ a → a ≤ 57 → TL.numL (a - 48) = [a] := fun a p q => by rw [TL.numL_lt (by omega)]; congr 1; omega
  have two : ∀ a b, 48 < a → a ≤ 57 → 48 ≤ b → b ≤ 57 → TL.numL ((a - 48) * 10 + (b - 48)) = [a, b] := fun a b p q r s => by
    rw [TL.numL_step (by omega), show ((a - 48) * 10 + (b - 48)) / 10 = a - 48 by omega, show ((a - 48) * 10 + (b - 48)) % 10 = b - 48 by omega, one a (by omega) q]
    show [a, 48 + (b - 48)] = [a, b]
    rw [show 48 + (b - 48) = b by omega]
  match l, h1, h2, h3, h4 with
  | [a], _, _, _, h4 =>
    have ha := h4 a (by simp)
    exact ⟨a - 48, by omega, (one a ha.1 ha.2).symm⟩
  | [a, b], _, _, h3, h4 =>
    have ha := h4 a (by simp)
    have hb := h4 b (by simp)
    have h0 : a ≠ 48 := fun e => h3 (by simp) (by rw [e]; rfl)
    exact ⟨_, by omega, (two a b (by omega) ha.2 hb.1 hb.2).symm⟩
  | [a, b, c], _, _, h3, h4 =>
    have ha := h4 a (by simp)
    have hb := h4 b (by simp)
    have hc := h4 c (by simp)
    have h0 : a ≠ 48 := fun e => h3 (by simp) (by rw [e]; rfl)
    refine ⟨((a - 48) * 10 + (b - 48)) * 10 + (c - 48), by omega, ?_⟩
    rw [TL.numL_step (by omega), show (((a - 48) * 10 + (b - 48)) * 10 + (c - 48)) / 10 = (a - 48) * 10 + (b - 48) by omega, show (((a - 48) * 10 + (b - 48)) * 10 + (c - 48)) % 10 = c - 48 by omega, two a b (by omega) ha.2 hb.1 hb.2]
    show [a, b, c] = [a, b, 48 + (c - 48)]
    rw [show 48 + (c - 48) = c by omega]
/-- the number that a word writes -/
def numOf (w : Str) : Option Nat := (List.range 1000).find? fun n => decide (strI (n : Int) = w)
theorem numOf_some {w : Str} {n : Nat} (h : numOf w = some n) : n < 1000 ∧ w = strI (n : Int) := by
  have h1 := List.mem_of_find?_eq_some h
  have h2 := List.find?_some h
  exact ⟨List.mem_range.mp h1, (of_decide_eq_true h2).symm⟩
theorem numOf_num {n : Nat} (h : n < 1000) : numOf (strI (n : Int)) = some n := by
  cases e : numOf (strI (n : Int)) with
  | none =>
    have := List.find?_eq_none.mp e n (List.mem_range.mpr h)
    simp at this
  | some k => rw [strI_inj (numOf_some e).2]
theorem numOf_iff {w : Str} : (numOf w).isSome = true ↔ isNumL (TL.tl w) := by
  refine ⟨fun h => ?_, fun h => ?_⟩
  · obtain ⟨n, e⟩ := Option.isSome_iff_exists.mp h
    obtain ⟨h1, rfl⟩ := numOf_some e
    rw [tl_num]
    exact isNum_num h1
  · obtain ⟨n, h1, h2⟩ := num_isNum h
    have : w = strI (n : Int) := by rw [strI_S, ← h2, s_tl]
    rw [this, numOf_num h1]
    rfl
theorem s0 : ("0" : Str) = SX.S [48] := by decide +kernel
theorem figs : ("0123456789" : Str) = SX.S [48, 49, 50, 51, 52, 53, 54, 55, 56, 57] := by decide +kernel
theorem boxs : ("abcdefgh" : Str) = SX.S [97, 98, 99, 100, 101, 102, 103, 104] := by decide +kernel
theorem has_c (w : Str) (c : Nat) : hasS w (⟨#[c]⟩ : Str) = decide (c ∈ TL.tl w) := by
  have := SX.in_one (TL.tl w) c
  rw [s_tl] at this
  exact this
section
variable {w : Str}
theorem number_wp {Φ : Option Int → Prop} (hl : w.length ≤ 100000) (q : Φ ((numOf w).map fun n : Nat => (n : Int))) : (m_number_of w).run Φ := by
  have sz := small hl
  have lt := len_tl w
  have bad : ¬ isNumL (TL.tl w) → Φ none := fun h => by
    have : numOf w = none := by
      cases e : numOf w with
      | none => rfl
      | some n => exact absurd (numOf_iff.mp (by rw [e]; rfl)) h
    rw [this] at q
    exact q
  unfold m_number_of
  rw [run_guard, run_bind]
  refine ⟨sz, ?_⟩
  rw [run_if]
  by_cases c1 : (w.length : Int) < 1
  · rw [if_pos (decide_eq_true c1), run_rt, run_if, if_pos rfl, run_rt]
    exact bad fun h => by have := h.1; omega
  rw [if_neg (by simpa using c1), run_guard, run_bind]
  refine ⟨sz, ?_⟩
  rw [run_if]
  by_cases c2 : (w.length : Int) > 3
  · rw [if_pos (decide_eq_true c2)]
    simp only [run_rt, run_if, if_true]
    exact bad fun h => by have := h.2.1; omega
  rw [if_neg (by simpa using c2), run_guard, run_bind]
  refine ⟨sz, ?_⟩
  have lead : (W.ite (decide ((w.length : Int) > 1)) (W.bind (chr w (0 : Int)) fun t1 => W.ret (decide (t1 = ("0" : Str)))) (W.ret false)).run fun b => b = decide (1 < (TL.tl w).length ∧ (TL.tl w).head? = some 48) := by
    rw [run_if]
    by_cases c3 : (w.length : Int) > 1
    · rw [if_pos (decide_eq_true c3)]
      unfold chr
      simp only [run_bind, run_guard, run_opt, run_rt]
      refine ⟨sz, ?_⟩
      obtain ⟨d, ds, e⟩ : ∃ d ds, TL.tl w = d :: ds := by
        cases e : TL.tl w with
        | nil => rw [e] at lt; simp at lt; omega
        | cons d ds => exact ⟨d, ds, rfl⟩
      refine ⟨d, by show atI (TL.tl w) (0 : Int) = some d; rw [e]; exact at_head, ?_⟩
      rw [e]
      by_cases c : d = 48
      · subst c
        rw [decide_eq_true (show (⟨#[48]⟩ : Str) = "0" from s0.symm), decide_eq_true ⟨by rw [e] at lt; simp at lt ⊢; omega, rfl⟩]
      · have : (⟨#[d]⟩ : Str) ≠ ("0" : Str) := fun z => by
          rw [s0] at z
          have : [d] = [48] := SX.S_inj z
          simp at this
          exact c this
        rw [decide_eq_false this, decide_eq_false]
        simp [c]
    · rw [if_neg (by simpa using c3), run_rt, decide_eq_false]
      intro z
      have := z.1
      omega
  refine run_mono lead fun b hb => ?_
  subst hb
  simp only [run_rt, run_if]
  by_cases c3 : 1 < (TL.tl w).length ∧ (TL.tl w).head? = some 48
  · rw [if_pos (decide_eq_true c3)]
    exact bad fun h => h.2.2.1 c3.1 c3.2
  rw [if_neg (by simpa using c3)]
  rw [run_bind]
  refine forC_wp (fun i _ => ∀ c ∈ (TL.tl w).take i, 48 ≤ c ∧ c ≤ 57) (by simp) (fun j x s hx hs => ?_) (fun _ hs => ?_)
  · unfold chS at hx
    rw [List.getElem?_map] at hx
    cases e : (TL.tl w)[j]? with
    | none =>
      have e' : w.cps.toList[j]? = none := e
      rw [e'] at hx; cases hx
    | some c =>
      have e' : w.cps.toList[j]? = some c := e
      rw [e'] at hx
      cases hx
      unfold m_number_of_L1
      rw [has_c, figs, tl_S, run_if]
      by_cases hc : 48 ≤ c ∧ c ≤ 57
      · have : c ∈ [48, 49, 50, 51, 52, 53, 54, 55, 56, 57] := by
          simp only [List.mem_cons, List.not_mem_nil, or_false]
          omega
        rw [decide_eq_true this]
        show ∀ c ∈ (TL.tl w).take (j + 1), 48 ≤ c ∧ c ≤ 57
        rw [take_snocN e]
        intro d hd
        rcases List.mem_append.mp hd with h | h
        · exact hs d h
        · rw [List.mem_singleton.mp h]; exact hc
      · have : c ∉ [48, 49, 50, 51, 52, 53, 54, 55, 56, 57] := by
          simp only [List.mem_cons, List.not_mem_nil, or_false]
          omega
        rw [decide_eq_false this]
        exact bad fun h => hc (h.2.2.2 c (List.mem_of_getElem? e))
  · have hln : (chS w).length = (TL.tl w).length := by unfold chS; rw [List.length_map]
    rw [hln, List.take_length] at hs
    have hn : isNumL (TL.tl w) := ⟨by omega, by omega, fun h1 h2 => c3 ⟨h1, h2⟩, hs⟩
    obtain ⟨n, e⟩ := Option.isSome_iff_exists.mp (numOf_iff.mpr hn)
    obtain ⟨h1, rfl⟩ := numOf_some e
    rw [e] at q
    unfold W.after intS
    simp only [run_bind, run_guard, run_opt, run_rt]
    exact ⟨by omega, _, PySem.W.KIN.num_reads (by omega) (by omega), q⟩
/-! ### boxes -/
def boxOf (w : Str) : Option Nat := (List.range 8).find? fun b => decide (ltr b = w)
theorem boxOf_some {b : Nat} (h : boxOf w = some b) : b < 8 ∧ w = ltr b := by
  have h1 := List.mem_of_find?_eq_some h
  have h2 := List.find?_some h
  exact ⟨List.mem_range.mp h1, (of_decide_eq_true h2).symm⟩
theorem boxOf_ltr {b : Nat} (h : b < 8) : boxOf (ltr b) = some b := by
  have : ∀ b : Fin 8, boxOf (ltr b.val) = some b.val := by decide +kernel
  exact this ⟨b, h⟩
theorem ltr_S : ∀ b : Fin 8, ltr b.val = SX.S [97 + b.val] := by decide +kernel
theorem box_wp {Φ : Option Str → Prop} (hl : w.length ≤ 100000) (q : Φ ((boxOf w).map ltr)) : (m_box_of w).run Φ := by
  have lt := len_tl w
  have bad : (∀ b, b < 8 → w ≠ ltr b) → Φ none := fun h => by
    have : boxOf w = none := by
      cases e : boxOf w with
      | none => rfl
      | some b => exact absurd (boxOf_some e).2 (h b (boxOf_some e).1)
    rw [this] at q
    exact q
  unfold m_box_of
  rw [run_guard, run_bind, run_if]
  refine ⟨small hl, ?_⟩
  by_cases c1 : (w.length : Int) = 1
  · rw [if_pos (decide_eq_true c1), run_rt, run_if]
    obtain ⟨c, e⟩ : ∃ c, TL.tl w = [c] := List.length_eq_one_iff.mp (by omega)
    have ew : w = (⟨#[c]⟩ : Str) := by rw [← s_tl w, e]
    have hh : hasS ("abcdefgh" : Str) w = decide (c ∈ [97, 98, 99, 100, 101, 102, 103, 104]) := by
      rw [ew, has_c, boxs, tl_S]
    rw [hh]
    by_cases hc : 97 ≤ c ∧ c ≤ 104
    · have hm : c ∈ [97, 98, 99, 100, 101, 102, 103, 104] := by
        simp only [List.mem_cons, List.not_mem_nil, or_false]
        omega
      have el : w = ltr (c - 97) := by
        rw [ltr_S ⟨c - 97, by omega⟩, ew]
        show SX.S [c] = SX.S [97 + (c - 97)]
        rw [show 97 + (c - 97) = c by omega]
      rw [if_pos (decide_eq_true hm), run_rt]
      have e2 : boxOf w = some (c - 97) := by rw [el]; exact boxOf_ltr (by omega)
      rw [e2] at q
      rw [el]
      exact q
    · have hm : c ∉ [97, 98, 99, 100, 101, 102, 103, 104] := by
        simp only [List.mem_cons, List.not_mem_nil, or_false]
        omega
      rw [if_neg (by simpa using hm), run_rt]
      refine bad fun b hb z => ?_
      rw [ltr_S ⟨b, hb⟩, ew] at z
      have : [c] = [97 + b] := SX.S_inj z
      simp at this
      omega
  · rw [if_neg (by simpa using c1)]
    simp only [run_rt, run_if, Bool.false_eq_true, if_false]
    refine bad fun b hb z => ?_
    rw [z, ltr_len] at c1
    omega
/-! ### a number or a box -/
def plnOf (w : Str) : Option Pln := match numOf w with
  | some n => some (.num n)
  | none => (boxOf w).map .box
def encO {α : Type} (f : α → PyData) : Option α → PyData
  | some x => f x
  | none => .none
theorem plnOf_some {p : Pln} (h : plnOf w = some p) : p.ok ∧ w = p.txt := by
  unfold plnOf at h
  cases e : numOf w with
  | some n =>
    rw [e] at h
    cases h
    obtain ⟨h1, h2⟩ := numOf_some e
    exact ⟨⟨by omega, by omega⟩, h2⟩
  | none =>
    rw [e] at h
    obtain ⟨b, h', rfl⟩ := Option.map_eq_some_iff.mp h
    exact boxOf_some h'
theorem plnOf_txt {p : Pln} (ok : p.ok) : plnOf p.txt = some p := by
  cases p with
  | num i =>
    obtain ⟨n, rfl⟩ : ∃ n : Nat, i = n := ⟨i.toNat, by have := ok.1; omega⟩
    have : numOf (Pln.txt (.num (n : Int))) = some n := numOf_num (by have := ok.2; omega)
    unfold plnOf
    rw [this]
  | box b =>
    have hb : b < 8 := ok
    have h0 : numOf (ltr b) = none := by
      have : ∀ b : Fin 8, ¬ isNumL (TL.tl (ltr b.val)) := fun b h => by
        rw [ltr_S b, tl_S] at h
        have := h.2.2.2 (97 + b.val) (by simp)
        omega
      cases e : numOf (ltr b) with
      | none => rfl
      | some n => exact absurd (numOf_iff.mp (by rw [e]; rfl)) (this ⟨b, hb⟩)
    show plnOf (ltr b) = some (.box b)
    unfold plnOf
    rw [h0, boxOf_ltr hb]
    rfl
theorem pyN : pyNone .none = true := rfl
theorem plain_wp' {Φ : PyData → Prop} (hl : w.length ≤ 100000) (q : Φ (encO Pln.enc (plnOf w))) : (m_plain_of w).run Φ := by
  unfold m_plain_of
  rw [run_bind]
  refine number_wp hl ?_
  simp only [run_bind, run_rt, run_guard]
  cases e : numOf w with
  | some n =>
    refine ⟨fun b h => (by cases h; exact fun z => (by cases z)), ?_⟩
    have : plnOf w = some (.num n) := by unfold plnOf; rw [e]
    rw [this] at q
    simp only [Option.map_some, Option.isSome_some, run_if, if_true, run_rt]
    exact q
  | none =>
    refine ⟨fun b h => (by cases h), ?_⟩
    rw [run_if, if_neg (by simp), run_bind]
    refine box_wp hl ?_
    simp only [run_guard, run_if, run_rt]
    have ep : plnOf w = (boxOf w).map .box := by unfold plnOf; rw [e]
    rw [ep] at q
    cases e2 : boxOf w with
    | some b =>
      rw [e2] at q
      obtain ⟨_, rfl⟩ := boxOf_some e2
      exact ⟨fun b h => (by cases h; exact fun z => (by cases z)), by rw [if_pos (by rfl)]; exact q⟩
    | none =>
      rw [e2] at q
      exact ⟨fun b h => (by cases h), by rw [if_neg (by simp)]; exact q⟩
/-! ### sums and differences -/
def two_ (mk : Pln → Pln → Wth) (a b : Str) : Option Wth := match plnOf a, plnOf b with
  | some p, some q => some (mk p q)
  | _, _ => none
def wthOf (w : Str) : Option Wth :=
  if 43 ∈ TL.tl w then two_ .plus (parts w "+").a (parts w "+").c
  else if 45 ∈ TL.tl w then two_ .minus (parts w "-").a (parts w "-").c
  else (plnOf w).map .one
theorem tl_plus : TL.tl ("+" : Str) = [43] := by decide +kernel
theorem tl_minus : TL.tl ("-" : Str) = [45] := by decide +kernel
theorem e_plus : ("+" : Str) = (⟨#[43]⟩ : Str) := by decide +kernel
theorem e_minus : ("-" : Str) = (⟨#[45]⟩ : Str) := by decide +kernel
theorem parts_app {sep a b : Str} {s : Nat} (es : TL.tl sep = [s]) (h : s ∉ TL.tl a) : parts (a ++ sep ++ b) sep = ⟨a, sep, b⟩ := by
  unfold parts
  rw [TL.partition_app es h]
theorem parts_of {sep : Str} {s : Nat} (es : TL.tl sep = [s]) (h : s ∈ TL.tl w) : ∃ a b : Str, w = a ++ sep ++ b ∧ s ∉ TL.tl a ∧ parts w sep = ⟨a, sep, b⟩ := by
  obtain ⟨as, bs, e, hn⟩ := List.eq_append_cons_of_mem h
  have ew : w = SX.S as ++ sep ++ SX.S bs := TL.ext_tl (by rw [TL.tl_append, TL.tl_append, es, e]; show _ = as ++ [s] ++ bs; simp)
  refine ⟨SX.S as, SX.S bs, ew, hn, ?_⟩
  rw [ew]
  exact parts_app es hn
theorem pln_free {p : Pln} (ok : p.ok) {s : Nat} (hs : s < 48) : s ∉ TL.tl p.txt := by
  cases p with
  | num i =>
    obtain ⟨n, rfl⟩ : ∃ n : Nat, i = n := ⟨i.toNat, by have := ok.1; omega⟩
    show s ∉ TL.tl (strI (n : Int))
    rw [tl_num]
    exact TL.numL_free (.inl hs)
  | box b =>
    have hb : b < 8 := ok
    show s ∉ TL.tl (ltr b)
    rw [ltr_S ⟨b, hb⟩, tl_S]
    simp
    omega
theorem two_some {mk : Pln → Pln → Wth} {a b : Str} {x : Wth} (h : two_ mk a b = some x) : ∃ p q, x = mk p q ∧ p.ok ∧ q.ok ∧ a = p.txt ∧ b = q.txt := by
  unfold two_ at h
  split at h
  · rename_i p q e1 e2
    cases h
    exact ⟨p, q, rfl, (plnOf_some e1).1, (plnOf_some e2).1, (plnOf_some e1).2, (plnOf_some e2).2⟩
  · cases h
theorem wthOf_some {x : Wth} (h : wthOf w = some x) : x.ok ∧ w = x.txt := by
  unfold wthOf at h
  by_cases c1 : 43 ∈ TL.tl w
  · rw [if_pos c1] at h
    obtain ⟨a, b, e, _, ep⟩ := parts_of tl_plus c1
    rw [ep] at h
    obtain ⟨p, q, rfl, op, oq, rfl, rfl⟩ := two_some h
    exact ⟨⟨op, oq⟩, e⟩
  · rw [if_neg c1] at h
    by_cases c2 : 45 ∈ TL.tl w
    · rw [if_pos c2] at h
      obtain ⟨a, b, e, _, ep⟩ := parts_of tl_minus c2
      rw [ep] at h
      obtain ⟨p, q, rfl, op, oq, rfl, rfl⟩ := two_some h
      exact ⟨⟨op, oq⟩, e⟩
    · rw [if_neg c2] at h
      obtain ⟨p, h', rfl⟩ := Option.map_eq_some_iff.mp h
      exact plnOf_some h'
theorem two_txt {mk : Pln → Pln → Wth} {p q : Pln} (op : p.ok) (oq : q.ok) : two_ mk p.txt q.txt = some (mk p q) := by
  unfold two_
  rw [plnOf_txt op, plnOf_txt oq]
theorem wthOf_txt {x : Wth} (ok : x.ok) : wthOf x.txt = some x := by
  cases x with
  | one p =>
    have f1 := pln_free (p := p) ok (s := 43) (by decide)
    have f2 := pln_free (p := p) ok (s := 45) (by decide)
    show wthOf p.txt = _
    unfold wthOf
    rw [if_neg f1, if_neg f2, plnOf_txt ok]
    rfl
  | plus p q =>
    have f1 := pln_free (p := p) ok.1 (s := 43) (by decide)
    show wthOf (p.txt ++ "+" ++ q.txt) = _
    unfold wthOf
    rw [if_pos (by rw [TL.tl_append, TL.tl_append, tl_plus]; simp), parts_app tl_plus f1]
    exact two_txt ok.1 ok.2
  | minus p q =>
    have f1 := pln_free (p := p) ok.1 (s := 43) (by decide)
    have f2 := pln_free (p := q) ok.2 (s := 43) (by decide)
    have f3 := pln_free (p := p) ok.1 (s := 45) (by decide)
    show wthOf (p.txt ++ "-" ++ q.txt) = _
    unfold wthOf
    rw [if_neg (by rw [TL.tl_append, TL.tl_append, tl_minus]; simp [f1, f2]), if_pos (by rw [TL.tl_append, TL.tl_append, tl_minus]; simp), parts_app tl_minus f3]
    exact two_txt ok.1 ok.2
theorem len_app {a s b : Str} (h : (a ++ s ++ b).length ≤ 100000) : a.length ≤ 100000 ∧ b.length ≤ 100000 := by
  rw [Str.length_append, Str.length_append] at h
  omega
theorem worth_wp' {Φ : PyData → Prop} (hl : w.length ≤ 100000) (q : Φ (encO Wth.enc (wthOf w))) : (m_worth_of w).run Φ := by
  unfold m_worth_of
  rw [run_bind]
  simp only [W.forC]
  have step : ∀ (sep jn : Str) (s : Nat) (mk : Pln → Pln → Wth) (Ψ : Ctl PyData Unit → Prop), TL.tl sep = [s] → (sep.length == 0) = false → (∀ p q, (mk p q).enc = .tuple [.str jn, p.enc, q.enc]) → s ∈ TL.tl w → Ψ (.rt (encO Wth.enc (two_ mk (parts w sep).a (parts w sep).c))) →
      (m_worth_of_L1 w sep jn).run Ψ := fun sep jn s mk Ψ es ez em hm k => by
    obtain ⟨a, b, e, _, ep⟩ := parts_of es hm
    have hlab := len_app (by rw [← e]; exact hl)
    have esep : sep = (⟨#[s]⟩ : Str) := by rw [← s_tl sep, es]
    unfold m_worth_of_L1
    rw [run_if, if_pos (by rw [esep, has_c]; exact decide_eq_true hm), run_guard]
    refine ⟨⟨ez, small hl⟩, ?_⟩
    rw [ep] at k ⊢
    simp only [run_bind, run_rt]
    refine plain_wp' hlab.1 (plain_wp' hlab.2 ?_)
    unfold two_ at k
    cases e1 : plnOf a with
    | none =>
      rw [e1] at k
      simp only [run_rt, run_if, encO, pyN, if_true]
      exact k
    | some p =>
      have np : pyNone p.enc = false := by cases p <;> rfl
      cases e2 : plnOf b with
      | none =>
        rw [e1, e2] at k
        simp only [run_rt, run_if, encO, np, pyN, Bool.false_eq_true, if_false, if_true]
        exact k
      | some p' =>
        have np' : pyNone p'.enc = false := by cases p' <;> rfl
        rw [e1, e2] at k
        simp only [run_rt, run_if, encO, np, np', Bool.false_eq_true, if_false]
        have k : Ψ (.rt (mk p p').enc) := k
        rw [em] at k
        exact k
  have skip : ∀ (sep jn : Str) (s : Nat) (Ψ : Ctl PyData Unit → Prop), TL.tl sep = [s] → s ∉ TL.tl w → Ψ (.nx ()) → (m_worth_of_L1 w sep jn).run Ψ := fun sep jn s Ψ es hm k => by
    have esep : sep = (⟨#[s]⟩ : Str) := by rw [← s_tl sep, es]
    unfold m_worth_of_L1
    rw [run_if, if_neg (by rw [esep, has_c]; simpa using hm), run_rt]
    exact k
  unfold wthOf at q
  rw [run_bind]
  by_cases c1 : 43 ∈ TL.tl w
  · rw [if_pos c1] at q
    refine step "+" "plus" 43 .plus _ tl_plus (by decide +kernel) (fun _ _ => rfl) c1 ?_
    exact q
  · rw [if_neg c1] at q
    refine skip "+" "plus" 43 _ tl_plus c1 ?_
    dsimp only
    rw [run_bind]
    by_cases c2 : 45 ∈ TL.tl w
    · rw [if_pos c2] at q
      refine step "-" "minus" 45 .minus _ tl_minus (by decide +kernel) (fun _ _ => rfl) c2 ?_
      exact q
    · rw [if_neg c2] at q
      refine skip "-" "minus" 45 _ tl_minus c2 ?_
      show (W.bind (m_plain_of w) _).run Φ
      rw [run_bind]
      refine plain_wp' hl ?_
      rw [run_rt]
      cases e : plnOf w with
      | none => rw [e] at q; exact q
      | some p => rw [e] at q; exact q
end
end M

/-! # rows read -/
namespace M
open PySem L2 Z
def two2 {α β : Type} (f : α → β → Rw) : Option α → Option β → Option Rw
  | some a, some b => some (f a b)
  | _, _ => none
def thr3 {α β γ : Type} (f : α → β → γ → Rw) : Option α → Option β → Option γ → Option Rw
  | some a, some b, some c => some (f a b c)
  | _, _, _ => none
/-- the row that a text's words write -/
def rowOf : List Str → Option Rw
  | [k, x] => if k = "say" then (wthOf x).map .say else if k = "go" then (numOf x).map .go else none
  | [k, x, y] => if k = "load" then two2 .load (boxOf x) (numOf y) else if k = "store" then two2 .store (numOf x) (wthOf y) else if k = "let" then two2 .lett (boxOf x) (wthOf y) else none
  | [k, x, y, z] => if k = "swap" then thr3 .swap (boxOf x) (numOf y) (wthOf z) else none
  | [k, x, y, z, g, t] => if k = "unless" ∧ (y = "=" ∨ y = "<") ∧ g = "go" then thr3 (Rw.unless (decide (y = "<"))) (wthOf x) (wthOf z) (numOf t) else none
  | _ => none
theorem rowOf2 (k x : Str) : rowOf [k, x] = if k = "say" then (wthOf x).map .say else if k = "go" then (numOf x).map .go else none := rfl
theorem rowOf3 (k x y : Str) : rowOf [k, x, y] = if k = "load" then two2 .load (boxOf x) (numOf y) else if k = "store" then two2 .store (numOf x) (wthOf y) else if k = "let" then two2 .lett (boxOf x) (wthOf y) else none := rfl
theorem rowOf4 (k x y z : Str) : rowOf [k, x, y, z] = if k = "swap" then thr3 .swap (boxOf x) (numOf y) (wthOf z) else none := rfl
theorem two2_some {α β : Type} {f : α → β → Rw} {a : Option α} {b : Option β} {r : Rw} (h : two2 f a b = some r) : ∃ x y, a = some x ∧ b = some y ∧ r = f x y := by
  cases a with
  | none => cases h
  | some x => cases b with
    | none => cases h
    | some y => cases h; exact ⟨x, y, rfl, rfl, rfl⟩
theorem thr3_some {α β γ : Type} {f : α → β → γ → Rw} {a : Option α} {b : Option β} {c : Option γ} {r : Rw} (h : thr3 f a b c = some r) : ∃ x y z, a = some x ∧ b = some y ∧ c = some z ∧ r = f x y z := by
  cases a with
  | none => cases h
  | some x => cases b with
    | none => cases h
    | some y => cases c with
      | none => cases h
      | some z => cases h; exact ⟨x, y, z, rfl, rfl, rfl, rfl⟩
theorem sgn_of {y : Str} (h : y = "=" ∨ y = "<") : y = sgn (decide (y = "<")) := by
  rcases h with rfl | rfl
  · rw [decide_eq_false (by decide +kernel)]; rfl
  · rw [decide_eq_true rfl]; rfl
theorem rowOf_some {ws : List Str} {r : Rw} (h : rowOf ws = some r) : r.ok 1000 999 ∧ ws = r.words := by
  unfold rowOf at h
  split at h
  · rename_i k x
    split at h
    · rename_i e
      subst e
      obtain ⟨w, e, rfl⟩ := Option.map_eq_some_iff.mp h
      obtain ⟨o, rfl⟩ := wthOf_some e
      exact ⟨o, rfl⟩
    · split at h
      · rename_i e
        subst e
        obtain ⟨n, e, rfl⟩ := Option.map_eq_some_iff.mp h
        obtain ⟨o, rfl⟩ := numOf_some e
        exact ⟨show n ≤ 999 by omega, rfl⟩
      · cases h
  · rename_i k x y
    split at h
    · rename_i e
      subst e
      obtain ⟨b, c, e1, e2, rfl⟩ := two2_some h
      obtain ⟨o1, rfl⟩ := boxOf_some e1
      obtain ⟨o2, rfl⟩ := numOf_some e2
      exact ⟨⟨o1, o2⟩, rfl⟩
    · split at h
      · rename_i e
        subst e
        obtain ⟨b, c, e1, e2, rfl⟩ := two2_some h
        obtain ⟨o1, rfl⟩ := numOf_some e1
        obtain ⟨o2, rfl⟩ := wthOf_some e2
        exact ⟨⟨o1, o2⟩, rfl⟩
      · split at h
        · rename_i e
          subst e
          obtain ⟨b, c, e1, e2, rfl⟩ := two2_some h
          obtain ⟨o1, rfl⟩ := boxOf_some e1
          obtain ⟨o2, rfl⟩ := wthOf_some e2
          exact ⟨⟨o1, o2⟩, rfl⟩
        · cases h
  · rename_i k x y z
    split at h
    · rename_i e
      subst e
      obtain ⟨b, c, d, e1, e2, e3, rfl⟩ := thr3_some h
      obtain ⟨o1, rfl⟩ := boxOf_some e1
      obtain ⟨o2, rfl⟩ := numOf_some e2
      obtain ⟨o3, rfl⟩ := wthOf_some e3
      exact ⟨⟨o1, o2, o3⟩, rfl⟩
    · cases h
  · rename_i k x y z g t
    split at h
    · rename_i e
      obtain ⟨rfl, hy, rfl⟩ := e
      obtain ⟨b, c, d, e1, e2, e3, rfl⟩ := thr3_some h
      obtain ⟨o1, rfl⟩ := wthOf_some e1
      obtain ⟨o2, rfl⟩ := wthOf_some e2
      obtain ⟨o3, rfl⟩ := numOf_some e3
      refine ⟨⟨o1, o2, by omega⟩, ?_⟩
      show _ = [("unless" : Str), b.txt, sgn (decide (y = "<")), c.txt, "go", strI (d : Int)]
      rw [← sgn_of hy]
    · cases h
  · cases h
theorem neK : (("go" : Str) = "say") = False ∧ (("store" : Str) = "load") = False ∧ (("let" : Str) = "load") = False ∧ (("let" : Str) = "store") = False := by decide +kernel
theorem rowOf_words {r : Rw} {m n : Nat} (o : r.ok m n) (hm : m ≤ 1000) (hn : n ≤ 999) : rowOf r.words = some r := by
  obtain ⟨n1, n2, n3, n4⟩ := neK
  cases r with
  | load b c =>
    show two2 Rw.load (boxOf (ltr b)) (numOf (strI (c : Int))) = _
    rw [boxOf_ltr o.1, numOf_num (by have := o.2; omega)]
    rfl
  | store c w =>
    show rowOf [("store" : Str), strI (c : Int), w.txt] = _
    rw [rowOf3, if_neg (by rw [n2]; exact id), if_pos rfl, numOf_num (by have := o.1; omega), wthOf_txt o.2]
    rfl
  | swap b c w =>
    show thr3 Rw.swap (boxOf (ltr b)) (numOf (strI (c : Int))) (wthOf w.txt) = _
    rw [boxOf_ltr o.1, numOf_num (by have := o.2.1; omega), wthOf_txt o.2.2]
    rfl
  | lett b w =>
    show rowOf [("let" : Str), ltr b, w.txt] = _
    rw [rowOf3, if_neg (by rw [n3]; exact id), if_neg (by rw [n4]; exact id), if_pos rfl, boxOf_ltr o.1, wthOf_txt o.2]
    rfl
  | say w =>
    show (wthOf w.txt).map Rw.say = _
    rw [wthOf_txt o]
    rfl
  | go t =>
    show rowOf [("go" : Str), strI (t : Int)] = _
    rw [rowOf2, if_neg (by rw [n1]; exact id), if_pos rfl, numOf_num (by have o : t ≤ n := o; omega)]
    rfl
  | «unless» lt w w' t =>
    show (if ("unless" : Str) = "unless" ∧ (sgn lt = "=" ∨ sgn lt = "<") ∧ ("go" : Str) = "go" then thr3 (Rw.unless (decide (sgn lt = "<"))) (wthOf w.txt) (wthOf w'.txt) (numOf (strI (t : Int))) else none) = _
    rw [if_pos ⟨rfl, by cases lt; exact .inl rfl; exact .inr rfl, rfl⟩, wthOf_txt o.1, wthOf_txt o.2.1, numOf_num (by have := o.2.2; omega)]
    have : decide (sgn lt = "<") = lt := by cases lt <;> decide +kernel
    rw [this]
    rfl
/-! ### what is told of a word by its reader -/
theorem eqN {p : PyData} : eqD p () = pyNone p := by cases p <;> rfl
theorem gd_b {x : Str} : Gd 3 (encO (fun b => PyData.str (ltr b)) (boxOf x)) := by
  cases e : boxOf x with
  | none => exact .non
  | some b => exact .str _ (ltr_so (boxOf_some e).1)
theorem gd_n {x : Str} : Gd 3 (encO (fun n : Nat => PyData.int n) (numOf x)) := by
  cases numOf x with
  | none => exact .non
  | some b => exact .int _
theorem gd_w {x : Str} : Gd 3 (encO Wth.enc (wthOf x)) := by
  cases e : wthOf x with
  | none => exact .non
  | some b => exact gd_wth (wthOf_some e).1
theorem none_w {w : Wth} : pyNone w.enc = false := by
  cases w with
  | one p => cases p <;> rfl
  | plus _ _ => rfl
  | minus _ _ => rfl
theorem pyS {s : Str} : pyNone (.str s) = false := rfl
theorem pyI {i : Int} : pyNone (.int i) = false := rfl
theorem ix_of : keyIx rdr_READERS "b" = some 0 ∧ keyIx rdr_READERS "n" = some 1 ∧ keyIx rdr_READERS "w" = some 2 := by decide +kernel
section
variable {words : List Str} {k x y z : Str}
theorem rdb_wp {Φ : PyData → Prop} (hl : x.length ≤ 100000) (q : Φ (encO (fun b => PyData.str (ltr b)) (boxOf x))) : (rd3 0 (m_box_of x) (m_number_of x) (m_worth_of x)).run Φ := by
  show (W.bind (m_box_of x) fun x => W.ret (toPy x)).run Φ
  rw [run_bind]
  refine box_wp hl ?_
  rw [run_rt]
  cases e : boxOf x with
  | none => rw [e] at q; exact q
  | some b => rw [e] at q; exact q
theorem rdn_wp {Φ : PyData → Prop} (hl : x.length ≤ 100000) (q : Φ (encO (fun n : Nat => PyData.int n) (numOf x))) : (rd3 1 (m_box_of x) (m_number_of x) (m_worth_of x)).run Φ := by
  show (W.bind (m_number_of x) fun x => W.ret (toPy x)).run Φ
  rw [run_bind]
  refine number_wp hl ?_
  rw [run_rt]
  cases e : numOf x with
  | none => rw [e] at q; exact q
  | some b => rw [e] at q; exact q
theorem rdw_wp {Φ : PyData → Prop} (hl : x.length ≤ 100000) (q : Φ (encO Wth.enc (wthOf x))) : (rd3 2 (m_box_of x) (m_number_of x) (m_worth_of x)).run Φ := by
  show (W.bind (m_worth_of x) fun x => W.ret (toPy x)).run Φ
  rw [run_bind]
  exact worth_wp' hl q
theorem fin_wp {Φ : PyData → Prop} {ws : List Str} {ps : List PyData} (hl : ps.length ≤ 4) (hg : ∀ p ∈ ps, Gd 3 p) (q : Φ (if ps.any pyNone then .none else .tuple (.str k :: ps))) :
    (W.guard (okD () ∧ okD ps) (W.ite (inD () ps) (W.ret (toPy ())) (W.bind (W.opt (atI (k :: ws) (0 : Int))) fun t27 => W.guard (((⟨List.map toPy (⟨[t27]⟩ : (Tp Str)).l⟩ : Tp PyData)).l.length + ((⟨ps⟩ : (Tp PyData))).l.length ≤ sizeLine) (W.ret (toPy (⟨(⟨List.map toPy (⟨[t27]⟩ : (Tp Str)).l⟩ : Tp PyData).l ++ (⟨ps⟩ : (Tp PyData)).l⟩ : (Tp PyData))))))).run Φ := by
  rw [run_guard, run_if]
  have g : Gd 4 (toPy ps) := gd_map (by omega) fun x hx => hg x hx
  refine ⟨⟨okD_gd (n := 1) .non (by decide), okD_gd g (by decide)⟩, ?_⟩
  have e : inD () ps = ps.any pyNone := by
    unfold inD
    simp only [eqN]
  rw [e]
  by_cases c : ps.any pyNone = true
  · rw [if_pos c] at q ⊢
    exact q
  · rw [if_neg c] at q ⊢
    simp only [run_bind, run_opt, run_guard, run_rt]
    refine ⟨k, at_head, small (by simp; omega), ?_⟩
    have e2 : (toPy (⟨List.map toPy (⟨[k]⟩ : (Tp Str)).l ++ ps⟩ : Tp PyData)) = .tuple (.str k :: ps) := by
      show PyData.tuple (List.map (toPy (α := PyData)) (PyData.str k :: ps)) = _
      congr 1
      exact List.map_id _
    rw [e2]
    exact q
theorem neF : (("load" : Str) = "unless") = False ∧ (("store" : Str) = "unless") = False ∧ (("swap" : Str) = "unless") = False ∧ (("let" : Str) = "unless") = False ∧ (("say" : Str) = "unless") = False ∧ (("go" : Str) = "unless") = False := by decide +kernel
theorem len_f : ("bn" : Str).length = 2 ∧ ("nw" : Str).length = 2 ∧ ("bnw" : Str).length = 3 ∧ ("bw" : Str).length = 2 ∧ ("w" : Str).length = 1 ∧ ("n" : Str).length = 1 := by decide +kernel
/-- the words of a row: the first one, and how many -/
theorem words_of {r : Rw} {ws : List Str} (h : k :: ws = r.words) : (k = "load" → ws.length = 2) ∧ (k = "store" → ws.length = 2) ∧ (k = "swap" → ws.length = 3) ∧ (k = "let" → ws.length = 2) ∧ (k = "say" → ws.length = 1) ∧ (k = "go" → ws.length = 1) ∧ (k = "unless" → ws.length = 5) := by
  cases r with
  | load b c => cases h; exact ⟨fun _ => rfl, fun h => absurd h (by decide +kernel), fun h => absurd h (by decide +kernel), fun h => absurd h (by decide +kernel), fun h => absurd h (by decide +kernel), fun h => absurd h (by decide +kernel), fun h => absurd h (by decide +kernel)⟩
  | store c w => cases h; exact ⟨fun h => absurd h (by decide +kernel), fun _ => rfl, fun h => absurd h (by decide +kernel), fun h => absurd h (by decide +kernel), fun h => absurd h (by decide +kernel), fun h => absurd h (by decide +kernel), fun h => absurd h (by decide +kernel)⟩
  | swap b c w => cases h; exact ⟨fun h => absurd h (by decide +kernel), fun h => absurd h (by decide +kernel), fun _ => rfl, fun h => absurd h (by decide +kernel), fun h => absurd h (by decide +kernel), fun h => absurd h (by decide +kernel), fun h => absurd h (by decide +kernel)⟩
  | lett b w => cases h; exact ⟨fun h => absurd h (by decide +kernel), fun h => absurd h (by decide +kernel), fun h => absurd h (by decide +kernel), fun _ => rfl, fun h => absurd h (by decide +kernel), fun h => absurd h (by decide +kernel), fun h => absurd h (by decide +kernel)⟩
  | say w => cases h; exact ⟨fun h => absurd h (by decide +kernel), fun h => absurd h (by decide +kernel), fun h => absurd h (by decide +kernel), fun h => absurd h (by decide +kernel), fun _ => rfl, fun h => absurd h (by decide +kernel), fun h => absurd h (by decide +kernel)⟩
  | go t => cases h; exact ⟨fun h => absurd h (by decide +kernel), fun h => absurd h (by decide +kernel), fun h => absurd h (by decide +kernel), fun h => absurd h (by decide +kernel), fun h => absurd h (by decide +kernel), fun _ => rfl, fun h => absurd h (by decide +kernel)⟩
  | «unless» lt w w' t => cases h; exact ⟨fun h => absurd h (by decide +kernel), fun h => absurd h (by decide +kernel), fun h => absurd h (by decide +kernel), fun h => absurd h (by decide +kernel), fun h => absurd h (by decide +kernel), fun h => absurd h (by decide +kernel), fun _ => rfl⟩
theorem words_kw {r : Rw} {ws : List Str} (h : k :: ws = r.words) : k = "load" ∨ k = "store" ∨ k = "swap" ∨ k = "let" ∨ k = "say" ∨ k = "go" ∨ k = "unless" := by
  cases r <;> cases h <;> simp
theorem no_row {ws : List Str} (h : ∀ r : Rw, k :: ws ≠ r.words) : rowOf (k :: ws) = none := by
  cases e : rowOf (k :: ws) with
  | none => rfl
  | some r => exact absurd (rowOf_some e).2 (h r)
theorem unless_wp {Φ : PyData → Prop} {ws : List Str} (hl : ws.length ≤ 100000) (hw : ∀ w ∈ ws, w.length ≤ 100000) (q : Φ (encO Rw.enc (rowOf ("unless" :: ws)))) : (m_unless_of ("unless" :: ws)).run Φ := by
  unfold m_unless_of
  by_cases c : ws.length = 5
  · obtain ⟨x, y, z, g, t, rfl⟩ : ∃ x y z g t, ws = [x, y, z, g, t] := by
      match ws, c with
      | [x, y, z, g, t], _ => exact ⟨x, y, z, g, t, rfl⟩
    have hx := hw x (by simp)
    have hz := hw z (by simp)
    have ht := hw t (by simp)
    have a2 : atI [("unless" : Str), x, y, z, g, t] (2 : Int) = some y := atI_nat (j := 2) rfl
    have a4 : atI [("unless" : Str), x, y, z, g, t] (4 : Int) = some g := atI_nat (j := 4) rfl
    have a1 : atI [("unless" : Str), x, y, z, g, t] (1 : Int) = some x := atI_nat (j := 1) rfl
    have a3 : atI [("unless" : Str), x, y, z, g, t] (3 : Int) = some z := atI_nat (j := 3) rfl
    have a5 : atI [("unless" : Str), x, y, z, g, t] (5 : Int) = some t := atI_nat (j := 5) rfl
    have e6 : decide (([("unless" : Str), x, y, z, g, t].length : Int) = (6 : Int)) = true := decide_eq_true rfl
    have bad : ¬ ((y = "=" ∨ y = "<") ∧ g = "go") → rowOf [("unless" : Str), x, y, z, g, t] = none := fun h => by
      unfold rowOf
      exact if_neg fun q => h ⟨q.2.1, q.2.2⟩
    rw [e6]
    simp only [run_bind, run_if, run_rt, run_opt, a1, a2, a3, a4, a5, Option.some.injEq, exists_eq_left', Bool.not_true, Bool.false_eq_true, if_false]
    have emem : decide (y ∈ [(("=" : Str), ("<" : Str)).1, (("=" : Str), ("<" : Str)).2]) = decide (y = "=" ∨ y = "<") := by
      congr 1
      simp
    rw [emem]
    by_cases c1 : y = "=" ∨ y = "<"
    · rw [decide_eq_true c1]
      simp only [Bool.not_true, Bool.false_eq_true, if_false]
      by_cases c2 : g = "go"
      · rw [decide_eq_true c2]
        simp only [Bool.not_true, Bool.false_eq_true, if_false]
        have er : rowOf [("unless" : Str), x, y, z, g, t] = thr3 (Rw.unless (decide (y = "<"))) (wthOf x) (wthOf z) (numOf t) := by
          unfold rowOf
          exact if_pos ⟨rfl, c1, c2⟩
        rw [er] at q
        refine worth_wp' hx (worth_wp' hz (number_wp ht ?_))
        cases e1 : wthOf x with
        | none =>
          rw [e1] at q
          simp only [encO, pyN, if_true]
          have : thr3 (Rw.unless (decide (y = "<"))) none (wthOf z) (numOf t) = none := rfl
          rw [this] at q
          exact q
        | some w1 =>
          cases e2 : wthOf z with
          | none =>
            rw [e1, e2] at q
            simp only [encO, pyN, none_w, Bool.false_eq_true, if_false, if_true]
            have : thr3 (Rw.unless (decide (y = "<"))) (some w1) none (numOf t) = none := rfl
            rw [this] at q
            exact q
          | some w2 =>
            cases e3 : numOf t with
            | none =>
              rw [e1, e2, e3] at q
              simp only [encO, none_w, Bool.false_eq_true, if_false, run_guard, Option.map_none, Option.isNone_none, if_true]
              exact ⟨fun b h => (by cases h), q⟩
            | some n =>
              rw [e1, e2, e3] at q
              simp only [encO, none_w, Bool.false_eq_true, if_false, run_guard, Option.map_some, Option.isNone_some]
              refine ⟨fun b h => (by cases h; exact fun z => (by cases z)), ?_⟩
              have q : Φ (.tuple [.str "unless", .str (sgn (decide (y = "<"))), w1.enc, w2.enc, .int n]) := q
              rw [← sgn_of c1] at q
              exact q
      · rw [decide_eq_false c2]
        simp only [Bool.not_false, if_true]
        rw [bad fun h => c2 h.2] at q
        exact q
    · rw [decide_eq_false c1]
      simp only [Bool.not_false, if_true]
      rw [bad fun h => c1 h.1] at q
      exact q
  · have e6 : decide (((("unless" : Str) :: ws).length : Int) = (6 : Int)) = false := decide_eq_false (by rw [List.length_cons]; omega)
    rw [e6]
    simp only [run_bind, run_if, run_rt, Bool.not_false, if_true]
    rw [no_row fun r h => c ((words_of h).2.2.2.2.2.2 rfl)] at q
    exact q
theorem row_wp' {Φ : PyData → Prop} {ws : List Str} (hl : ws.length ≤ 100000) (hw : ∀ w ∈ ws, w.length ≤ 100000) (q : Φ (encO Rw.enc (rowOf (k :: ws)))) : (m_row_of (k :: ws)).run Φ := by
  obtain ⟨k1, k2, k3, k4, k5, k6⟩ := kv_of
  obtain ⟨c1, c2, c3, c4, c5, c6⟩ := ch_of
  obtain ⟨u1, u2, u3, u4, u5, u6⟩ := neF
  obtain ⟨l1, l2, l3, l4, l5, l6⟩ := len_f
  obtain ⟨i1, i2, i3⟩ := ix_of
  obtain ⟨n1, n2, n3, n4⟩ := neK
  have a0 : atI (k :: ws) (0 : Int) = some k := at_head
  unfold m_row_of
  simp only [run_bind, run_if, run_rt, run_opt, a0, Option.some.injEq, exists_eq_left']
  by_cases cu : k = "unless"
  · subst cu
    rw [if_pos (decide_eq_true rfl)]
    exact unless_wp hl hw q
  rw [if_neg (by simpa using cu)]
  have short : ∀ n : Nat, ws.length ≠ n → decide ((((k :: ws).length : Int)) = (1 : Int) + (n : Int)) = false := fun n h => decide_eq_false (by rw [List.length_cons]; omega)
  have long : ∀ n : Nat, ws.length = n → decide ((((k :: ws).length : Int)) = (1 : Int) + (n : Int)) = true := fun n h => decide_eq_true (by rw [List.length_cons]; omega)
  have two : ws.length = 2 → ∃ x y, ws = [x, y] := fun h => by
    match ws, h with
    | [x, y], _ => exact ⟨x, y, rfl⟩
  by_cases ck : k = "load"
  · subst ck
    rw [k1]
    simp only [Option.isSome_some, if_true, run_bind, run_opt, Option.some.injEq, exists_eq_left', run_rt, run_guard, run_if, l1]
    refine ⟨by decide, ?_⟩
    by_cases cl : ws.length = 2
    · rw [long 2 cl]
      obtain ⟨x, y, rfl⟩ := two cl
      rw [cut1, c1]
      simp only [Bool.not_true, Bool.false_eq_true, if_false, List.zip_cons_cons, List.zip_nil_left, W.forL]
      refine ⟨rfl, ?_⟩
      unfold m_row_of_L1
      simp only [run_bind, run_opt, i1, i2, i3, Option.some.injEq, exists_eq_left', run_rt]
      refine rdb_wp (hw x (by simp)) (apd_wp (Nat.le_of_ble_eq_true rfl) (rdn_wp (hw y (by simp)) (apd_wp (Nat.le_of_ble_eq_true rfl) ?_)))
      refine fin_wp (ws := [x, y]) (Nat.le_of_ble_eq_true rfl) (all2 gd_b gd_n) ?_
      have er : rowOf [("load" : Str), x, y] = two2 .load (boxOf x) (numOf y) := by rw [rowOf3, if_pos rfl]
      rw [er] at q
      cases e1 : boxOf x <;> cases e2 : numOf y <;> (rw [e1, e2] at q; exact q)
    · rw [short 2 cl]
      simp only [Bool.not_false, if_true]
      rw [no_row fun r h => cl ((words_of h).1 rfl)] at q
      exact q
  by_cases ck2 : k = "store"
  · subst ck2
    rw [k2]
    simp only [Option.isSome_some, if_true, run_bind, run_opt, Option.some.injEq, exists_eq_left', run_rt, run_guard, run_if, l2]
    refine ⟨by decide, ?_⟩
    by_cases cl : ws.length = 2
    · rw [long 2 cl]
      obtain ⟨x, y, rfl⟩ := two cl
      rw [cut1, c2]
      simp only [Bool.not_true, Bool.false_eq_true, if_false, List.zip_cons_cons, List.zip_nil_left, W.forL]
      refine ⟨rfl, ?_⟩
      unfold m_row_of_L1
      simp only [run_bind, run_opt, i1, i2, i3, Option.some.injEq, exists_eq_left', run_rt]
      refine rdn_wp (hw x (by simp)) (apd_wp (Nat.le_of_ble_eq_true rfl) (rdw_wp (hw y (by simp)) (apd_wp (Nat.le_of_ble_eq_true rfl) ?_)))
      refine fin_wp (ws := [x, y]) (Nat.le_of_ble_eq_true rfl) (all2 gd_n gd_w) ?_
      have er : rowOf [("store" : Str), x, y] = two2 .store (numOf x) (wthOf y) := by rw [rowOf3, if_neg (by rw [n2]; exact id), if_pos rfl]
      rw [er] at q
      cases e1 : numOf x <;> cases e2 : wthOf y <;> (rw [e1, e2] at q; simp only [encO, List.nil_append, List.cons_append, List.append_nil, List.any_cons, List.any_nil, pyN, none_w, Bool.or_false, Bool.or_true, Bool.true_or, Bool.false_or, if_true, Bool.false_eq_true, if_false, pyS, pyI]; exact q)
    · rw [short 2 cl]
      simp only [Bool.not_false, if_true]
      rw [no_row fun r h => cl ((words_of h).2.1 rfl)] at q
      exact q
  by_cases ck3 : k = "swap"
  · subst ck3
    rw [k3]
    simp only [Option.isSome_some, if_true, run_bind, run_opt, Option.some.injEq, exists_eq_left', run_rt, run_guard, run_if, l3]
    refine ⟨by decide, ?_⟩
    by_cases cl : ws.length = 3
    · rw [long 3 cl]
      obtain ⟨x, y, z, rfl⟩ : ∃ x y z, ws = [x, y, z] := by
        match ws, cl with
        | [x, y, z], _ => exact ⟨x, y, z, rfl⟩
      rw [cut1, c3]
      simp only [Bool.not_true, Bool.false_eq_true, if_false, List.zip_cons_cons, List.zip_nil_left, W.forL]
      refine ⟨rfl, ?_⟩
      unfold m_row_of_L1
      simp only [run_bind, run_opt, i1, i2, i3, Option.some.injEq, exists_eq_left', run_rt]
      refine rdb_wp (hw x (by simp)) (apd_wp (Nat.le_of_ble_eq_true rfl) (rdn_wp (hw y (by simp)) (apd_wp (Nat.le_of_ble_eq_true rfl) (rdw_wp (hw z (by simp)) (apd_wp (Nat.le_of_ble_eq_true rfl) ?_)))))
      refine fin_wp (ws := [x, y, z]) (Nat.le_of_ble_eq_true rfl) (all3 gd_b gd_n gd_w) ?_
      have er : rowOf [("swap" : Str), x, y, z] = thr3 .swap (boxOf x) (numOf y) (wthOf z) := by rw [rowOf4, if_pos rfl]
      rw [er] at q
      cases e1 : boxOf x <;> cases e2 : numOf y <;> cases e3 : wthOf z <;> (rw [e1, e2, e3] at q; simp only [encO, List.nil_append, List.cons_append, List.append_nil, List.any_cons, List.any_nil, pyN, none_w, Bool.or_false, Bool.or_true, Bool.true_or, Bool.false_or, if_true, Bool.false_eq_true, if_false, pyS, pyI]; exact q)
    · rw [short 3 cl]
      simp only [Bool.not_false, if_true]
      rw [no_row fun r h => cl ((words_of h).2.2.1 rfl)] at q
      exact q
  by_cases ck4 : k = "let"
  · subst ck4
    rw [k4]
    simp only [Option.isSome_some, if_true, run_bind, run_opt, Option.some.injEq, exists_eq_left', run_rt, run_guard, run_if, l4]
    refine ⟨by decide, ?_⟩
    by_cases cl : ws.length = 2
    · rw [long 2 cl]
      obtain ⟨x, y, rfl⟩ := two cl
      rw [cut1, c4]
      simp only [Bool.not_true, Bool.false_eq_true, if_false, List.zip_cons_cons, List.zip_nil_left, W.forL]
      refine ⟨rfl, ?_⟩
      unfold m_row_of_L1
      simp only [run_bind, run_opt, i1, i2, i3, Option.some.injEq, exists_eq_left', run_rt]
      refine rdb_wp (hw x (by simp)) (apd_wp (Nat.le_of_ble_eq_true rfl) (rdw_wp (hw y (by simp)) (apd_wp (Nat.le_of_ble_eq_true rfl) ?_)))
      refine fin_wp (ws := [x, y]) (Nat.le_of_ble_eq_true rfl) (all2 gd_b gd_w) ?_
      have er : rowOf [("let" : Str), x, y] = two2 .lett (boxOf x) (wthOf y) := by rw [rowOf3, if_neg (by rw [n3]; exact id), if_neg (by rw [n4]; exact id), if_pos rfl]
      rw [er] at q
      cases e1 : boxOf x <;> cases e2 : wthOf y <;> (rw [e1, e2] at q; simp only [encO, List.nil_append, List.cons_append, List.append_nil, List.any_cons, List.any_nil, pyN, none_w, Bool.or_false, Bool.or_true, Bool.true_or, Bool.false_or, if_true, Bool.false_eq_true, if_false, pyS, pyI]; exact q)
    · rw [short 2 cl]
      simp only [Bool.not_false, if_true]
      rw [no_row fun r h => cl ((words_of h).2.2.2.1 rfl)] at q
      exact q
  by_cases ck5 : k = "say"
  · subst ck5
    rw [k5]
    simp only [Option.isSome_some, if_true, run_bind, run_opt, Option.some.injEq, exists_eq_left', run_rt, run_guard, run_if, l5]
    refine ⟨by decide, ?_⟩
    by_cases cl : ws.length = 1
    · rw [long 1 cl]
      obtain ⟨x, rfl⟩ := List.length_eq_one_iff.mp cl
      rw [cut1, c5]
      simp only [Bool.not_true, Bool.false_eq_true, if_false, List.zip_cons_cons, List.zip_nil_left, W.forL]
      refine ⟨rfl, ?_⟩
      unfold m_row_of_L1
      simp only [run_bind, run_opt, i1, i2, i3, Option.some.injEq, exists_eq_left', run_rt]
      refine rdw_wp (hw x (by simp)) (apd_wp (Nat.le_of_ble_eq_true rfl) ?_)
      refine fin_wp (ws := [x]) (Nat.le_of_ble_eq_true rfl) (all1 gd_w) ?_
      have er : rowOf [("say" : Str), x] = (wthOf x).map .say := by rw [rowOf2, if_pos rfl]
      rw [er] at q
      cases e1 : wthOf x <;> (rw [e1] at q; simp only [encO, List.nil_append, List.cons_append, List.append_nil, List.any_cons, List.any_nil, pyN, none_w, Bool.or_false, Bool.or_true, Bool.true_or, Bool.false_or, if_true, Bool.false_eq_true, if_false, pyS, pyI]; exact q)
    · rw [short 1 cl]
      simp only [Bool.not_false, if_true]
      rw [no_row fun r h => cl ((words_of h).2.2.2.2.1 rfl)] at q
      exact q
  by_cases ck6 : k = "go"
  · subst ck6
    rw [k6]
    simp only [Option.isSome_some, if_true, run_bind, run_opt, Option.some.injEq, exists_eq_left', run_rt, run_guard, run_if, l6]
    refine ⟨by decide, ?_⟩
    by_cases cl : ws.length = 1
    · rw [long 1 cl]
      obtain ⟨x, rfl⟩ := List.length_eq_one_iff.mp cl
      rw [cut1, c6]
      simp only [Bool.not_true, Bool.false_eq_true, if_false, List.zip_cons_cons, List.zip_nil_left, W.forL]
      refine ⟨rfl, ?_⟩
      unfold m_row_of_L1
      simp only [run_bind, run_opt, i1, i2, i3, Option.some.injEq, exists_eq_left', run_rt]
      refine rdn_wp (hw x (by simp)) (apd_wp (Nat.le_of_ble_eq_true rfl) ?_)
      refine fin_wp (ws := [x]) (Nat.le_of_ble_eq_true rfl) (all1 gd_n) ?_
      have er : rowOf [("go" : Str), x] = (numOf x).map .go := by rw [rowOf2, if_neg (by rw [n1]; exact id), if_pos rfl]
      rw [er] at q
      cases e1 : numOf x <;> (rw [e1] at q; exact q)
    · rw [short 1 cl]
      simp only [Bool.not_false, if_true]
      rw [no_row fun r h => cl ((words_of h).2.2.2.2.2.1 rfl)] at q
      exact q
  have kn : kvS dct_FORMS k = none := by
    unfold dct_FORMS
    simp only [kvS]
    rw [if_neg (fun h => ck h.symm), if_neg (fun h => ck2 h.symm), if_neg (fun h => ck3 h.symm), if_neg (fun h => ck4 h.symm), if_neg (fun h => ck5 h.symm), if_neg (fun h => ck6 h.symm)]
  rw [kn]
  simp only [Option.isSome_none, Bool.false_eq_true, if_false, run_rt]
  rw [no_row fun r h => by rcases words_kw h with h | h | h | h | h | h | h <;> first | exact ck h | exact ck2 h | exact ck3 h | exact ck4 h | exact ck5 h | exact ck6 h | exact cu h] at q
  exact q
end
end M

/-! # whole programs as texts -/
namespace M
open PySem L2 Z
theorem comp_map {α β γ : Type} {φ : γ → α} {g : γ → β} {c : α → W Bool} {e : α → W β} {Φ : List β → Prop} : ∀ {xs : List γ} {acc : List β}, (∀ x ∈ xs, ∀ Ψ : Bool → Prop, Ψ true → (c (φ x)).run Ψ) → (∀ x ∈ xs, ∀ Ψ : β → Prop, Ψ (g x) → (e (φ x)).run Ψ) → Φ (acc ++ xs.map g) → (Z.comp (xs.map φ) acc c e).run Φ
  | [], acc, _, _, k => by
    rw [List.map_nil, List.append_nil] at k
    exact k
  | x :: xs, acc, hc, he, k => by
    rw [List.map_cons]
    unfold Z.comp
    rw [run_bind]
    refine hc x List.mem_cons_self _ ?_
    simp only [run_bind, run_if, if_true]
    refine he x List.mem_cons_self _ ?_
    refine comp_map (fun y hy => hc y (List.mem_cons_of_mem _ hy)) (fun y hy => he y (List.mem_cons_of_mem _ hy)) ?_
    rw [List.append_assoc]
    exact k
theorem compG_map {α β γ : Type} {φ : γ → α} {c : α → W Bool} {e : α → W β} {Φ : List β → Prop} (g : γ → β) {xs : List γ} (hl : xs.length ≤ 100000) (hc : ∀ x ∈ xs, ∀ Ψ : Bool → Prop, Ψ true → (c (φ x)).run Ψ) (he : ∀ x ∈ xs, ∀ Ψ : β → Prop, Ψ (g x) → (e (φ x)).run Ψ) (k : Φ (xs.map g)) : (compG (xs.map φ) c e).run Φ := by
  unfold compG
  rw [run_guard]
  exact ⟨small (by rw [List.length_map]; exact hl), comp_map hc he (by rw [List.nil_append]; exact k)⟩
theorem exd_wp {α : Type} {xs ys : List α} {Φ : List α → Prop} (h : xs.length + ys.length ≤ 100000) (k : Φ (xs ++ ys)) : (exd xs ys).run Φ := by
  unfold exd
  rw [run_guard, run_rt]
  exact ⟨small h, k⟩
/-- a program whose text is written -/
structure PgOk (m : Nat) (rs : List (List Rw)) : Prop where
  m1 : 0 < m
  m20 : m ≤ 20
  hands : rs.length ≤ 8
  rows : ∀ rows ∈ rs, rows.length ≤ 60
  ok : ∀ rows ∈ rs, ∀ r ∈ rows, r.ok m rows.length
section
variable {m : Nat} {rs : List (List Rw)} {rows : List Rw} {Φ : Str → Prop}
def handL (rows : List Rw) : List Str := "hand" :: rows.map Rw.txt
theorem lines_eq {m : Int} : lines m rs = ("cells " ++ strI m) :: rs.flatMap handL := rfl
theorem handL_len (o : rows.length ≤ 60) : (handL rows).length ≤ 61 := by
  unfold handL
  rw [List.length_cons, List.length_map]
  omega
theorem flat_len : ∀ {rs : List (List Rw)}, (∀ rows ∈ rs, rows.length ≤ 60) → (rs.flatMap handL).length ≤ rs.length * 61
  | [], _ => by simp
  | r :: rs, h => by
    have h1 := handL_len (h r List.mem_cons_self)
    have h2 := flat_len fun y hy => h y (List.mem_cons_of_mem _ hy)
    rw [List.flatMap_cons, List.length_append, List.length_cons, Nat.succ_mul]
    omega
theorem lines_len (o : PgOk m rs) : (lines m rs).length ≤ 489 := by
  have h1 := flat_len o.rows
  have := o.hands
  have h2 : rs.length * 61 ≤ 8 * 61 := Nat.mul_le_mul_right _ o.hands
  rw [lines_eq, List.length_cons]
  omega
theorem line_len (o : PgOk m rs) : ∀ x ∈ lines m rs, x.length ≤ 60 := by
  intro x hx
  rw [lines_eq] at hx
  rcases List.mem_cons.mp hx with rfl | hx
  · have h1 := strI_len (i := (m : Int)) ⟨by omega, by have := o.m20; omega⟩
    rw [Str.length_append, len_cells]
    omega
  · obtain ⟨rows, hr, hx⟩ := List.mem_flatMap.mp hx
    rcases List.mem_cons.mp hx with rfl | hx
    · rw [len_hand]; decide
    · obtain ⟨r, hr', rfl⟩ := List.mem_map.mp hx
      exact tlen (o.ok rows hr r hr') (by have := o.m20; omega) (by have := o.rows rows hr; omega)
theorem lines_join (o : PgOk m rs) : JoinG ("\n" : Str) (lines m rs) := joinOk (n := 489) (b := 60) (by rw [len_lf]; exact Nat.le_refl _) (lines_len o) (line_len o) (by decide)
theorem take_flat {i : Nat} {rows : List Rw} (e : rs[i]? = some rows) : (rs.take (i + 1)).flatMap handL = (rs.take i).flatMap handL ++ handL rows := by
  rw [take_snocN e, List.flatMap_append]
  simp
/-! ### the law's own writing -/
theorem enc_tup {w : Wth} : ∃ xs, w.enc = .tuple xs := by
  cases w with
  | one p => cases p <;> exact ⟨_, rfl⟩
  | plus p q => exact ⟨_, rfl⟩
  | minus p q => exact ⟨_, rfl⟩
theorem isP_w {w : Wth} : isP w.enc "tuple" = true := by
  obtain ⟨xs, e⟩ := enc_tup (w := w)
  rw [e]; exact isP_tt
theorem okP_w {w : Wth} : okP w.enc = True := by
  obtain ⟨xs, e⟩ := enc_tup (w := w)
  rw [e]; exact okPt
theorem strPln_wp {p : Pln} {Ψ : PyData → Prop} (ok : p.ok) (q : Φ p.txt) : ∃ a, (match p.enc with | .tuple xs => atI xs (1 : Int) | _ => none) = some a ∧ (strP a).run Φ := by
  cases p with
  | num n =>
    have ok : 0 ≤ n ∧ n < 1000 := ok
    exact ⟨.int n, at1, strP_i ⟨ok.1, by omega⟩ q⟩
  | box b => exact ⟨.str (ltr b), at1, strP_s q⟩
theorem pix_wp {p : Pln} (ok : p.ok) (q : Φ p.txt) : ∃ a, pyIx p.enc (1 : Int) = some a ∧ (strP a).run Φ := by
  cases p with
  | num n =>
    have ok : 0 ≤ n ∧ n < 1000 := ok
    exact ⟨.int n, at1, strP_i ⟨ok.1, by omega⟩ q⟩
  | box b => exact ⟨.str (ltr b), at1, strP_s q⟩
theorem worth_text_wp {w : Wth} (ok : w.ok) (q : Φ w.txt) : (m_law_worth_text w.enc).run Φ := by
  unfold m_law_worth_text
  cases w with
  | one p =>
    have key : ∃ a, pyIx p.enc (0 : Int) = some (.str a) ∧ okD (PyData.str a) ∧ a ≠ "plus" ∧ a ≠ "minus" := by
      cases p with
      | num n => exact ⟨"number", at0, okW (by decide +kernel), by decide +kernel, by decide +kernel⟩
      | box b => exact ⟨"box", at0, okW (by decide +kernel), by decide +kernel, by decide +kernel⟩
    obtain ⟨a, e0, k0, k1, k2⟩ := key
    show ((W.bind (W.opt (pyIx p.enc (0 : Int))) _).run Φ)
    simp only [run_bind, run_opt, e0, Option.some.injEq, exists_eq_left', run_guard, run_if, eqS, okA, decide_eq_true_eq, k1, k2, if_false, and_true, run_rt, Wth.enc]
    exact ⟨k0, k0, pix_wp ok q⟩
  | plus p p' =>
    have h1 := Pln.tlen ok.1
    have h2 := Pln.tlen ok.2
    unfold Wth.enc
    simp only [run_bind, run_bind2, run_rt, run_guard, run_if, run_opt, pt, at0, at1, at2, at3, at4, atL3, atL4, eqS, frSd, frId, neW, okA, decide_true, decide_false, decide_eq_true_eq, Bool.false_eq_true, Bool.true_eq_false, if_true, if_false, Bool.not_true, Bool.not_false, Option.some.injEq, exists_eq_left', true_and, and_true, and_self]
    obtain ⟨a, e, r⟩ := pix_wp (p := p) (Φ := fun t => t.length + ("+" : Str).length ≤ sizeLine ∧ ∃ a, pyIx p'.enc (1 : Int) = some a ∧ (strP a).run fun u => (t ++ "+").length + u.length ≤ sizeLine ∧ Φ (t ++ "+" ++ u)) ok.1 (by
      refine ⟨sl (by rw [len_plus]; omega), pix_wp ok.2 ⟨sl (by rw [Str.length_append, len_plus]; omega), q⟩⟩)
    exact ⟨a, e, r⟩
  | minus p p' =>
    have h1 := Pln.tlen ok.1
    have h2 := Pln.tlen ok.2
    unfold Wth.enc
    simp only [run_bind, run_bind2, run_rt, run_guard, run_if, run_opt, pt, at0, at1, at2, at3, at4, atL3, atL4, eqS, frSd, frId, neW, okA, decide_true, decide_false, decide_eq_true_eq, Bool.false_eq_true, Bool.true_eq_false, if_true, if_false, Bool.not_true, Bool.not_false, Option.some.injEq, exists_eq_left', true_and, and_true, and_self]
    obtain ⟨a, e, r⟩ := pix_wp (p := p) (Φ := fun t => t.length + ("-" : Str).length ≤ sizeLine ∧ ∃ a, pyIx p'.enc (1 : Int) = some a ∧ (strP a).run fun u => (t ++ "-").length + u.length ≤ sizeLine ∧ Φ (t ++ "-" ++ u)) ok.1 (by
      refine ⟨sl (by rw [len_minus]; omega), pix_wp ok.2 ⟨sl (by rw [Str.length_append, len_minus]; omega), q⟩⟩)
    exact ⟨a, e, r⟩
theorem row_text_wp {r : Rw} {n : Nat} (ok : r.ok m n) (hm : m ≤ 1000) (hn : n ≤ 1000) (q : Φ r.txt) : (m_law_row_text r.enc).run Φ := by
  have wj := wjoin ok hm hn
  have ni : ∀ {c : Nat}, c ≤ 1000 → (0 : Int) ≤ (c : Int) ∧ (c : Int) < 1900 := fun {c} h => ⟨by omega, by omega⟩
  unfold m_law_row_text
  cases r with
  | load b c =>
    unfold Rw.enc
    simp only [run_bind, run_bind2, run_rt, run_guard, run_if, run_opt, pt, at0, at1, at2, at3, at4, atL3, atL4, eqS, frSd, frId, neW, okA, decide_true, decide_false, decide_eq_true_eq, Bool.false_eq_true, Bool.true_eq_false, if_true, if_false, Bool.not_true, Bool.not_false, Option.some.injEq, exists_eq_left', true_and, and_true, and_self, fr_tp, cut1]
    simp only [W.forL]
    unfold m_law_row_text_L1
    simp only [run_bind, run_bind2, run_rt, run_guard, run_if, run_opt, pt, at0, at1, at2, at3, at4, atL3, atL4, eqS, frSd, frId, neW, okA, decide_true, decide_false, decide_eq_true_eq, Bool.false_eq_true, Bool.true_eq_false, if_true, if_false, Bool.not_true, Bool.not_false, Option.some.injEq, exists_eq_left', true_and, and_true, and_self, isP_st, isP_it, isP_w, okPs, okPi, okP_w]
    refine strP_s (apd_wp (Nat.le_of_ble_eq_true rfl) (strP_i (ni (by have := ok.2; omega)) (apd_wp (Nat.le_of_ble_eq_true rfl) ⟨?_, ?_⟩)))
    · exact wj
    · rw [txj]; exact q
  | store c w =>
    unfold Rw.enc
    simp only [run_bind, run_bind2, run_rt, run_guard, run_if, run_opt, pt, at0, at1, at2, at3, at4, atL3, atL4, eqS, frSd, frId, neW, okA, decide_true, decide_false, decide_eq_true_eq, Bool.false_eq_true, Bool.true_eq_false, if_true, if_false, Bool.not_true, Bool.not_false, Option.some.injEq, exists_eq_left', true_and, and_true, and_self, fr_tp, cut1]
    simp only [W.forL]
    unfold m_law_row_text_L1
    simp only [run_bind, run_bind2, run_rt, run_guard, run_if, run_opt, pt, at0, at1, at2, at3, at4, atL3, atL4, eqS, frSd, frId, neW, okA, decide_true, decide_false, decide_eq_true_eq, Bool.false_eq_true, Bool.true_eq_false, if_true, if_false, Bool.not_true, Bool.not_false, Option.some.injEq, exists_eq_left', true_and, and_true, and_self, isP_st, isP_it, isP_w, okPs, okPi, okP_w]
    refine strP_i (ni (by have := ok.1; omega)) (apd_wp (Nat.le_of_ble_eq_true rfl) (worth_text_wp ok.2 (apd_wp (Nat.le_of_ble_eq_true rfl) ⟨?_, ?_⟩)))
    · exact wj
    · rw [txj]; exact q
  | swap b c w =>
    unfold Rw.enc
    simp only [run_bind, run_bind2, run_rt, run_guard, run_if, run_opt, pt, at0, at1, at2, at3, at4, atL3, atL4, eqS, frSd, frId, neW, okA, decide_true, decide_false, decide_eq_true_eq, Bool.false_eq_true, Bool.true_eq_false, if_true, if_false, Bool.not_true, Bool.not_false, Option.some.injEq, exists_eq_left', true_and, and_true, and_self, fr_tp, cut1]
    simp only [W.forL]
    unfold m_law_row_text_L1
    simp only [run_bind, run_bind2, run_rt, run_guard, run_if, run_opt, pt, at0, at1, at2, at3, at4, atL3, atL4, eqS, frSd, frId, neW, okA, decide_true, decide_false, decide_eq_true_eq, Bool.false_eq_true, Bool.true_eq_false, if_true, if_false, Bool.not_true, Bool.not_false, Option.some.injEq, exists_eq_left', true_and, and_true, and_self, isP_st, isP_it, isP_w, okPs, okPi, okP_w]
    refine strP_s (apd_wp (Nat.le_of_ble_eq_true rfl) (strP_i (ni (by have := ok.2.1; omega)) (apd_wp (Nat.le_of_ble_eq_true rfl) (worth_text_wp ok.2.2 (apd_wp (Nat.le_of_ble_eq_true rfl) ⟨?_, ?_⟩)))))
    · exact wj
    · rw [txj]; exact q
  | lett b w =>
    unfold Rw.enc
    simp only [run_bind, run_bind2, run_rt, run_guard, run_if, run_opt, pt, at0, at1, at2, at3, at4, atL3, atL4, eqS, frSd, frId, neW, okA, decide_true, decide_false, decide_eq_true_eq, Bool.false_eq_true, Bool.true_eq_false, if_true, if_false, Bool.not_true, Bool.not_false, Option.some.injEq, exists_eq_left', true_and, and_true, and_self, fr_tp, cut1]
    simp only [W.forL]
    unfold m_law_row_text_L1
    simp only [run_bind, run_bind2, run_rt, run_guard, run_if, run_opt, pt, at0, at1, at2, at3, at4, atL3, atL4, eqS, frSd, frId, neW, okA, decide_true, decide_false, decide_eq_true_eq, Bool.false_eq_true, Bool.true_eq_false, if_true, if_false, Bool.not_true, Bool.not_false, Option.some.injEq, exists_eq_left', true_and, and_true, and_self, isP_st, isP_it, isP_w, okPs, okPi, okP_w]
    refine strP_s (apd_wp (Nat.le_of_ble_eq_true rfl) (worth_text_wp ok.2 (apd_wp (Nat.le_of_ble_eq_true rfl) ⟨?_, ?_⟩)))
    · exact wj
    · rw [txj]; exact q
  | say w =>
    unfold Rw.enc
    simp only [run_bind, run_bind2, run_rt, run_guard, run_if, run_opt, pt, at0, at1, at2, at3, at4, atL3, atL4, eqS, frSd, frId, neW, okA, decide_true, decide_false, decide_eq_true_eq, Bool.false_eq_true, Bool.true_eq_false, if_true, if_false, Bool.not_true, Bool.not_false, Option.some.injEq, exists_eq_left', true_and, and_true, and_self, fr_tp, cut1]
    simp only [W.forL]
    unfold m_law_row_text_L1
    simp only [run_bind, run_bind2, run_rt, run_guard, run_if, run_opt, pt, at0, at1, at2, at3, at4, atL3, atL4, eqS, frSd, frId, neW, okA, decide_true, decide_false, decide_eq_true_eq, Bool.false_eq_true, Bool.true_eq_false, if_true, if_false, Bool.not_true, Bool.not_false, Option.some.injEq, exists_eq_left', true_and, and_true, and_self, isP_st, isP_it, isP_w, okPs, okPi, okP_w]
    refine worth_text_wp ok (apd_wp (Nat.le_of_ble_eq_true rfl) ⟨?_, ?_⟩)
    · exact wj
    · rw [txj]; exact q
  | go t =>
    unfold Rw.enc
    simp only [run_bind, run_bind2, run_rt, run_guard, run_if, run_opt, pt, at0, at1, at2, at3, at4, atL3, atL4, eqS, frSd, frId, neW, okA, decide_true, decide_false, decide_eq_true_eq, Bool.false_eq_true, Bool.true_eq_false, if_true, if_false, Bool.not_true, Bool.not_false, Option.some.injEq, exists_eq_left', true_and, and_true, and_self, fr_tp, cut1]
    simp only [W.forL]
    unfold m_law_row_text_L1
    simp only [run_bind, run_bind2, run_rt, run_guard, run_if, run_opt, pt, at0, at1, at2, at3, at4, atL3, atL4, eqS, frSd, frId, neW, okA, decide_true, decide_false, decide_eq_true_eq, Bool.false_eq_true, Bool.true_eq_false, if_true, if_false, Bool.not_true, Bool.not_false, Option.some.injEq, exists_eq_left', true_and, and_true, and_self, isP_st, isP_it, isP_w, okPs, okPi, okP_w]
    refine strP_i (ni (show t ≤ 1000 from Nat.le_trans ok hn)) (apd_wp (Nat.le_of_ble_eq_true rfl) ⟨?_, ?_⟩)
    · exact wj
    · rw [txj]; exact q
  | «unless» lt w w' t =>
    unfold Rw.enc
    simp only [run_bind, run_bind2, run_rt, run_guard, run_if, run_opt, pt, at0, at1, at2, at3, at4, atL3, atL4, eqS, frSd, frId, neW, okA, decide_true, decide_false, decide_eq_true_eq, Bool.false_eq_true, Bool.true_eq_false, if_true, if_false, Bool.not_true, Bool.not_false, Option.some.injEq, exists_eq_left', true_and, and_true, and_self]
    refine worth_text_wp ok.1 (worth_text_wp ok.2.1 (strP_i (ni (Nat.le_trans ok.2.2 hn)) ⟨?_, ?_⟩))
    · exact wj
    · rw [txj]; exact q
theorem law_text_wp (o : PgOk m rs) (q : Φ (progT m rs)) : (m_law_text ((m : Int), rs.map fun x => x.map Rw.enc)).run Φ := by
  have hm : (0 : Int) ≤ (m : Int) ∧ (m : Int) < 1900 := ⟨by omega, by have := o.m20; omega⟩
  have h8 := o.hands
  unfold m_law_text
  simp only [run_guard, run_bind, run_rt]
  refine ⟨strI_c hm, sl (by rw [len_cells]; have := strI_len hm; omega), ?_⟩
  refine forL_wp (fun i s => s = ("cells " ++ strI (m : Int)) :: (rs.take i).flatMap handL) rfl ?_ ?_
  · intro i x s hx hs
    rw [List.getElem?_map] at hx
    cases e : rs[i]? with
    | none => rw [e] at hx; cases hx
    | some rows =>
      rw [e] at hx
      cases hx
      have hr := List.mem_of_getElem? e
      have h60 := o.rows rows hr
      have fl : ((rs.take i).flatMap handL).length ≤ 1000 := by
        have := flat_len (rs := rs.take i) fun y hy => o.rows y (List.mem_of_mem_take hy)
        have h2 : (rs.take i).length ≤ 8 := by rw [List.length_take]; omega
        have : (rs.take i).length * 61 ≤ 8 * 61 := Nat.mul_le_mul_right _ h2
        omega
      subst hs
      unfold m_law_text_L1
      simp only [run_bind, run_rt, run_guard]
      refine ⟨small (by rw [List.length_cons, List.length_singleton]; omega), ?_⟩
      refine compG_map Rw.txt (by omega) (fun x hx Ψ k => by exact k) (fun r hr' Ψ k => ?_) ?_
      · rw [run_bind]
        exact row_text_wp (o.ok rows hr r hr') (by have := o.m20; omega) (by omega) k
      refine ⟨small (by rw [List.length_append, List.length_cons, List.length_map, List.length_singleton]; omega), ?_⟩
      rw [take_flat e]
      unfold handL
      simp
  · intro s hs
    rw [List.length_map, List.take_length] at hs
    rw [hs]
    refine ⟨lines_join o, ?_⟩
    rw [txj]
    exact q
end
end M

/-! # texts of programs read -/
namespace M
open PySem L2 Z
theorem tl_sp : TL.tl (" " : Str) = [32] := by decide +kernel
theorem tl_lf : TL.tl ("\n" : Str) = [10] := by decide +kernel
theorem free_app {a b : Str} {s : Nat} (h1 : s ∉ TL.tl a) (h2 : s ∉ TL.tl b) : s ∉ TL.tl (a ++ b) := by
  rw [TL.tl_append]
  intro h
  rcases List.mem_append.mp h with h | h
  · exact h1 h
  · exact h2 h
theorem free_join {sep : Str} {s : Nat} (h0 : s ∉ TL.tl sep) : ∀ {l : List Str}, (∀ x ∈ l, s ∉ TL.tl x) → s ∉ TL.tl (Str.join sep l)
  | [], _ => by show s ∉ []; simp
  | [x], h => h x List.mem_cons_self
  | x :: y :: l, h => by
    show s ∉ TL.tl (x ++ sep ++ Str.join sep (y :: l))
    exact free_app (free_app (h x List.mem_cons_self) h0) (free_join h0 fun z hz => h z (List.mem_cons_of_mem _ hz))
theorem spl {sep : Str} {s : Nat} {S : List Nat} (ey : TL.tl sep = s :: S) (hk : sep.cps.all (· < 256) = true) {parts : List Str} (hne : parts ≠ []) (hp : ∀ p ∈ parts, s ∉ TL.tl p) : Txt.split (Str.join sep parts) sep = parts := by
  rw [← txj]
  exact TL.split_join ey hk hne hp
/-- signs of a lesser code than these are in no word -/
theorem num_free {n s : Nat} (hs : s < 43) : s ∉ TL.tl (strI (n : Int)) := by
  rw [tl_num]
  exact TL.numL_free (.inl (by omega))
theorem ltr_free {b s : Nat} (hb : b < 8) (hs : s < 43) : s ∉ TL.tl (ltr b) := by
  rw [ltr_S ⟨b, hb⟩, tl_S]
  simp
  omega
theorem wth_free {w : Wth} {s : Nat} (o : w.ok) (hs : s < 43) : s ∉ TL.tl w.txt := by
  cases w with
  | one p => exact pln_free o (by omega)
  | plus p q => exact free_app (free_app (pln_free o.1 (by omega)) (by rw [tl_plus]; simp; omega)) (pln_free o.2 (by omega))
  | minus p q => exact free_app (free_app (pln_free o.1 (by omega)) (by rw [tl_minus]; simp; omega)) (pln_free o.2 (by omega))
theorem kws : TL.tl ("load" : Str) = [108, 111, 97, 100] ∧ TL.tl ("store" : Str) = [115, 116, 111, 114, 101] ∧ TL.tl ("swap" : Str) = [115, 119, 97, 112] ∧ TL.tl ("let" : Str) = [108, 101, 116] ∧ TL.tl ("say" : Str) = [115, 97, 121] ∧ TL.tl ("go" : Str) = [103, 111] ∧ TL.tl ("unless" : Str) = [117, 110, 108, 101, 115, 115] ∧ TL.tl ("=" : Str) = [61] ∧ TL.tl ("<" : Str) = [60] ∧ TL.tl ("hand" : Str) = [104, 97, 110, 100] ∧ TL.tl ("cells" : Str) = [99, 101, 108, 108, 115] := by decide +kernel
theorem words_free {r : Rw} {m n s : Nat} (o : r.ok m n) (hs : s < 43) : ∀ x ∈ r.words, s ∉ TL.tl x := by
  obtain ⟨k1, k2, k3, k4, k5, k6, k7, k8, k9, k10, k11⟩ := kws
  have kw : ∀ {x : Str} {l : List Nat}, TL.tl x = l → (∀ c ∈ l, 43 ≤ c) → s ∉ TL.tl x := fun e h q => by
    rw [e] at q
    have := h s q
    omega
  have mem : ∀ {P : Str → Prop} {l : List Str}, (∀ x ∈ l, P x) → ∀ {y}, P y → ∀ x ∈ y :: l, P x := fun h _ hy => List.forall_mem_cons.mpr ⟨hy, h⟩
  have nil : ∀ x ∈ ([] : List Str), s ∉ TL.tl x := fun x hx => by cases hx
  cases r with
  | load b c => exact mem (mem (mem nil (num_free hs)) (ltr_free o.1 hs)) (kw k1 (by decide))
  | store c w => exact mem (mem (mem nil (wth_free o.2 hs)) (num_free hs)) (kw k2 (by decide))
  | swap b c w => exact mem (mem (mem (mem nil (wth_free o.2.2 hs)) (num_free hs)) (ltr_free o.1 hs)) (kw k3 (by decide))
  | lett b w => exact mem (mem (mem nil (wth_free o.2 hs)) (ltr_free o.1 hs)) (kw k4 (by decide))
  | say w => exact mem (mem nil (wth_free o hs)) (kw k5 (by decide))
  | go t => exact mem (mem nil (num_free hs)) (kw k6 (by decide))
  | «unless» lt w w' t =>
    have sg : s ∉ TL.tl (sgn lt) := by
      cases lt
      · exact kw k8 (by decide)
      · exact kw k9 (by decide)
    exact mem (mem (mem (mem (mem (mem nil (num_free hs)) (kw k6 (by decide))) (wth_free o.2.1 hs)) sg) (wth_free o.1 hs)) (kw k7 (by decide))
theorem words_ne (r : Rw) : r.words ≠ [] := by cases r <;> exact fun h => by cases h
theorem spl_row {r : Rw} {m n : Nat} (o : r.ok m n) : Txt.split r.txt " " = r.words := spl tl_sp (by decide +kernel) (words_ne r) (words_free o (by decide))
theorem row_free {r : Rw} {m n : Nat} (o : r.ok m n) : 10 ∉ TL.tl r.txt := free_join (by rw [tl_sp]; decide) (words_free o (by decide))
/-- a row's text has a blank in it -/
theorem row_blank {r : Rw} : 32 ∈ TL.tl r.txt := by
  have : ∀ {x y : Str} {l : List Str}, 32 ∈ TL.tl (Str.join " " (x :: y :: l)) := fun {x y l} => by
    show 32 ∈ TL.tl (x ++ " " ++ Str.join " " (y :: l))
    rw [TL.tl_append, TL.tl_append, tl_sp]
    simp
  cases r <;> exact this
theorem row_hand {r : Rw} : r.txt ≠ "hand" := fun e => by
  have h := row_blank (r := r)
  rw [e, kws.2.2.2.2.2.2.2.2.2.1] at h
  revert h
  decide
section
variable {m : Nat} {rs : List (List Rw)} {rows : List Rw}
theorem line_free (o : PgOk m rs) : ∀ x ∈ lines m rs, 10 ∉ TL.tl x := by
  intro x hx
  rw [lines_eq] at hx
  rcases List.mem_cons.mp hx with rfl | hx
  · refine free_app ?_ (num_free (by decide))
    have : TL.tl ("cells " : Str) = [99, 101, 108, 108, 115, 32] := by decide +kernel
    rw [this]
    decide
  · obtain ⟨rows, hr, hx⟩ := List.mem_flatMap.mp hx
    rcases List.mem_cons.mp hx with rfl | hx
    · rw [kws.2.2.2.2.2.2.2.2.2.1]; decide
    · obtain ⟨r, hr', rfl⟩ := List.mem_map.mp hx
      exact row_free (o.ok rows hr r hr')
theorem spl_prog (o : PgOk m rs) : Txt.split (progT m rs) "\n" = lines m rs := spl tl_lf (by decide +kernel) (by rw [lines_eq]; simp) (line_free o)
theorem prog_len (o : PgOk m rs) : (progT m rs).length ≤ 40000 := by
  have h := StrLaws.join_length_le ("\n" : Str) (lines m rs)
  have h1 := lines_len o
  have h2 := sumle (line_len o)
  rw [len_lf] at h
  have : (lines m rs).length * 60 ≤ 489 * 60 := Nat.mul_le_mul_right _ h1
  unfold progT
  omega
/-! ### the first row -/
theorem cells_wp' {Φ : Int → Prop} (m1 : 0 < m) (m20 : m ≤ 20) (q : Φ m) : (m_cells_of ("cells " ++ strI (m : Int))).run Φ := by
  have e : ("cells " : Str) ++ strI (m : Int) = Str.join " " [("cells" : Str), strI (m : Int)] := by
    show _ = ("cells" : Str) ++ " " ++ strI (m : Int)
    congr 1
  have sp : Txt.split (("cells " : Str) ++ strI (m : Int)) " " = [("cells" : Str), strI (m : Int)] := by
    rw [e]
    refine spl tl_sp (by decide +kernel) (by simp) fun p hp => ?_
    simp only [List.mem_cons, List.not_mem_nil, or_false] at hp
    rcases hp with rfl | rfl
    · rw [kws.2.2.2.2.2.2.2.2.2.2]; decide
    · exact num_free (by decide)
  have hl := strI_len (i := (m : Int)) ⟨by omega, by omega⟩
  unfold m_cells_of
  rw [sp]
  have a0 : atI [("cells" : Str), strI (m : Int)] (0 : Int) = some ("cells" : Str) := at_head
  have a1 : atI [("cells" : Str), strI (m : Int)] (1 : Int) = some (strI (m : Int)) := atI_nat (j := 1) rfl
  have e2 : decide ((([("cells" : Str), strI (m : Int)].length : Int)) = (2 : Int)) = true := decide_eq_true rfl
  simp only [run_guard, run_bind, run_rt, run_if, run_opt, a0, a1, e2, Option.some.injEq, exists_eq_left', Bool.not_true, Bool.false_eq_true, if_false]
  refine ⟨⟨by decide +kernel, sl (by rw [Str.length_append, len_cells]; omega)⟩, ?_⟩
  simp only [decide_true, Bool.not_true, Bool.false_eq_true, if_false]
  refine number_wp (by omega) ?_
  rw [numOf_num (by omega)]
  simp only [Option.map_some, Option.isNone_some, Bool.false_eq_true, if_false]
  refine ⟨fun b h => (by cases h; exact fun z => (by cases z)), number_wp (by omega) ?_⟩
  rw [numOf_num (by omega)]
  refine ⟨(m : Int), rfl, ?_⟩
  rw [if_neg (by simp; omega)]
  have : decide ((m : Int) > 20) = false := decide_eq_false (by omega)
  rw [this]
  simp only [Bool.false_eq_true, if_false]
  exact q
/-! ### a row put to the last hand -/
def cellD : Rw → PyData
  | .load _ c => .int c
  | .store c _ => .int c
  | .swap _ c _ => .int c
  | _ => .none
theorem neC : (("load" : Str) = "swap") = False ∧ (("store" : Str) = "load") = False ∧ (("store" : Str) = "swap") = False ∧ (("swap" : Str) = "load") = False ∧ (("let" : Str) = "load") = False ∧ (("let" : Str) = "swap") = False ∧ (("let" : Str) = "store") = False ∧ (("say" : Str) = "load") = False ∧ (("say" : Str) = "swap") = False ∧ (("say" : Str) = "store") = False ∧ (("go" : Str) = "load") = False ∧ (("go" : Str) = "swap") = False ∧ (("go" : Str) = "store") = False ∧ (("unless" : Str) = "load") = False ∧ (("unless" : Str) = "swap") = False ∧ (("unless" : Str) = "store") = False := by decide +kernel
theorem okC : okD (PyData.str "load") = True ∧ okD ("load" : Str) = True ∧ okD (PyData.str "store") = True ∧ okD ("store" : Str) = True ∧ okD (PyData.str "swap") = True ∧ okD ("swap" : Str) = True ∧ okD (PyData.str "let") = True ∧ okD (PyData.str "say") = True ∧ okD (PyData.str "go") = True ∧ okD (PyData.str "unless") = True := by
  refine ⟨?_, ?_, ?_, ?_, ?_, ?_, ?_, ?_, ?_, ?_⟩ <;> exact eq_true (okW (by decide +kernel))
theorem cell_wp {r : Rw} {Φ : PyData → Prop} (q : Φ (cellD r)) : (m_cell_of r.enc).run Φ := by
  obtain ⟨n1, n2, n3, n4, n5, n6, n7, n8, n9, n10, n11, n12, n13, n14, n15, n16⟩ := neC
  unfold m_cell_of
  cases r <;> (unfold Rw.enc; simp only [run_bind, run_bind2, run_rt, run_guard, run_if, run_opt, pt, at0, at1, at2, at3, at4, atL3, atL4, eqS, frSd, frId, neW, okA, decide_true, decide_false, decide_eq_true_eq, Bool.false_eq_true, Bool.true_eq_false, if_true, if_false, Bool.not_true, Bool.not_false, Option.some.injEq, exists_eq_left', true_and, and_true, and_self, okC, n1, n2, n3, n4, n5, n6, n7, n8, n9, n10, n11, n12, n13, n14, n15, n16]; exact q)
theorem none_r {r : Rw} : pyNone r.enc = false := by cases r <;> rfl
theorem setI_last {α : Type} {xs : List α} {x y : α} : setI (xs ++ [x]) (-(1 : Int)) y = xs ++ [y] := by
  unfold setI
  have : ixN (xs ++ [x]).length (-(1 : Int)) = some xs.length := by
    unfold ixN
    rw [if_neg (by decide), if_pos (by rw [List.length_append, List.length_singleton]; omega)]
    congr 1
    rw [List.length_append, List.length_singleton]
    omega
  rw [this]
  simp
theorem gd_hands {n : Nat} {hs : List (List Rw)} (h8 : hs.length ≤ 100) (h60 : ∀ rows ∈ hs, rows.length ≤ 60) (ok : ∀ rows ∈ hs, ∀ r ∈ rows, r.ok m n) : Gd 6 (toPy (hs.map fun x => x.map Rw.enc)) := by
  refine gd_map (by rw [List.length_map]; omega) fun x hx => ?_
  obtain ⟨rows, hr, rfl⟩ := List.mem_map.mp hx
  exact gd_rows (by have := h60 rows hr; omega) (ok rows hr)
theorem eq_nil {xs : List (List PyData)} (g : Gd 6 (toPy xs)) (hne : xs ≠ []) : eqD xs ([] : List (List PyData)) = false := by
  have gn : Gd 1 (toPy ([] : List (List PyData))) := .lst (by simp) (fun x hx => by cases hx)
  cases e : eqD xs ([] : List (List PyData)) with
  | false => rfl
  | true =>
    have : toPy xs = toPy ([] : List (List PyData)) := (gd_eqv g gn).mp e
    cases xs with
    | nil => exact absurd rfl hne
    | cons x xs => cases this
theorem okNil : okD ([] : List (List PyData)) := okD_gd (n := 1) (.lst (by simp) (fun x hx => by cases hx)) (by decide)
theorem take_wp {hs : List (List Rw)} {cur : List Rw} {r : Rw} {n N : Nat} {at_ : Int} {Φ : Unit × List (List PyData) → Prop} (o : r.ok m n) (hm : m ≤ 1000) (hn : n ≤ 999) (h8 : hs.length ≤ 90) (h60 : ∀ rows ∈ hs ++ [cur], rows.length ≤ 60) (hc : cur.length < 60)
    (ok : ∀ rows ∈ hs ++ [cur], ∀ r ∈ rows, r.ok m N) (q : Φ ((), (hs ++ [cur ++ [r]]).map fun x => x.map Rw.enc)) : (m_take_row ((hs ++ [cur]).map fun x => x.map Rw.enc) r.words (m : Int) at_).run Φ := by
  have g := gd_hands (m := m) (n := N) (hs := hs ++ [cur]) (by rw [List.length_append, List.length_singleton]; omega) h60 ok
  have en := eq_nil g (by simp)
  have el : (hs ++ [cur]).map (fun x => x.map Rw.enc) = hs.map (fun x => x.map Rw.enc) ++ [cur.map Rw.enc] := by simp
  unfold m_take_row
  rw [run_bind]
  obtain ⟨k, ws, ew⟩ : ∃ k ws, r.words = k :: ws := by
    cases e : r.words with
    | nil => exact absurd e (words_ne r)
    | cons k ws => exact ⟨k, ws, rfl⟩
  have wl := wlen o hm (by omega)
  have ro := rowOf_words o hm hn
  rw [ew] at wl ro ⊢
  refine row_wp' (by have := wl.1; rw [List.length_cons] at this; omega) (fun w hw => by have := wl.2 w (List.mem_cons_of_mem _ hw); omega) ?_
  rw [ro]
  simp only [run_bind, run_rt, run_if, encO, none_r, Bool.false_eq_true, if_false, run_guard, en]
  refine ⟨⟨okD_gd g (by decide), okNil⟩, cell_wp ?_⟩
  have cd : ∃ b : Bool, (b = true → ∃ c : Nat, cellD r = .int c ∧ c < m) ∧ (!pyNone (cellD r)) = b := by
    cases r with
    | load b c => exact ⟨true, fun _ => ⟨c, rfl, o.2⟩, rfl⟩
    | store c w => exact ⟨true, fun _ => ⟨c, rfl, o.1⟩, rfl⟩
    | swap b c w => exact ⟨true, fun _ => ⟨c, rfl, o.2.1⟩, rfl⟩
    | lett b w => exact ⟨false, fun h => (by cases h), rfl⟩
    | say w => exact ⟨false, fun h => (by cases h), rfl⟩
    | go t => exact ⟨false, fun h => (by cases h), rfl⟩
    | «unless» lt w w' t => exact ⟨false, fun h => (by cases h), rfl⟩
  have al : atI ((hs ++ [cur]).map fun x => x.map Rw.enc) (-(1 : Int)) = some (cur.map Rw.enc) := by rw [el]; exact at_last
  have fin : (W.bind (W.opt (atI ((hs ++ [cur]).map fun x => x.map Rw.enc) (-(1 : Int)))) fun t21 => W.ite (decide (((t21).length : Int) = (60 : Int))) (W.bad) (W.bind (W.opt (atI ((hs ++ [cur]).map fun x => x.map Rw.enc) (-(1 : Int)))) fun t25 => W.bind (W.ret (-(1 : Int))) fun el29___ix_ => W.bind (W.opt (atI ((hs ++ [cur]).map fun x => x.map Rw.enc) el29___ix_)) fun el29__ => W.bind (apd el29__ r.enc) fun el29__ => W.bind (W.ret (setI ((hs ++ [cur]).map fun x => x.map Rw.enc) el29___ix_ el29__)) fun hands_ => W.ret ((), hands_))).run Φ := by
    simp only [run_bind, run_opt, al, Option.some.injEq, exists_eq_left', run_rt, run_if, List.length_map]
    rw [if_neg (by simp; omega)]
    refine apd_wp (by rw [List.length_map]; omega) ?_
    rw [el, setI_last]
    have : hs.map (fun x => x.map Rw.enc) ++ [cur.map Rw.enc ++ [r.enc]] = (hs ++ [cur ++ [r]]).map fun x => x.map Rw.enc := by simp
    rw [this]
    exact q
  simp only [run_bind, run_rt, run_if, Bool.false_eq_true, if_false, run_guard] at fin
  obtain ⟨b, hb, eb⟩ := cd
  rw [eb]
  cases b with
  | false =>
    simp only [Bool.false_eq_true, if_false]
    exact fin
  | true =>
    obtain ⟨c, ec, hcm⟩ := hb rfl
    rw [ec]
    simp only [if_true]
    refine ⟨(c : Int), rfl, ?_⟩
    dsimp only
    rw [if_neg (by simp; omega)]
    exact fin
/-! ### rows that lead on -/
theorem neG : (("load" : Str) = "go") = False ∧ (("load" : Str) = "unless") = False ∧ (("store" : Str) = "go") = False ∧ (("store" : Str) = "unless") = False ∧ (("swap" : Str) = "go") = False ∧ (("swap" : Str) = "unless") = False ∧ (("let" : Str) = "go") = False ∧ (("let" : Str) = "unless") = False ∧ (("say" : Str) = "go") = False ∧ (("say" : Str) = "unless") = False ∧ (("unless" : Str) = "go") = False := by decide +kernel
theorem frS {s : Str} : (Fr.fr (PyData.str s) : Option Str) = some s := rfl
theorem frI {s : Int} : (Fr.fr (PyData.int s) : Option Int) = some s := rfl
theorem look1_wp {rows : List Rw} {r : Rw} {at_ : Int} {Φ : Int → Prop} (o : r.ok m rows.length) (q : Φ (at_ + 1)) : (m_look_at_targets_L1 (rows.map Rw.enc) r.enc at_).run Φ := by
  obtain ⟨n1, n2, n3, n4, n5, n6, n7, n8, n9, n10, n11⟩ := neG
  have gt : ∀ {t : Nat}, t ≤ rows.length → ¬ ((t : Int) > (rows.length : Int)) := fun h => by omega
  unfold m_look_at_targets_L1
  cases r with
  | load b c => unfold Rw.enc; simp only [run_bind, run_bind2, run_rt, run_guard, run_if, run_opt, pt, at0, at1, at2, at3, at4, atL3, atL4, eqS, frSd, frId, neW, okA, decide_true, decide_false, decide_eq_true_eq, Bool.false_eq_true, Bool.true_eq_false, if_true, if_false, Bool.not_true, Bool.not_false, Option.some.injEq, exists_eq_left', true_and, and_true, and_self, frS, List.mem_cons, List.not_mem_nil, or_false, n1, n2]; exact q
  | store c w => unfold Rw.enc; simp only [run_bind, run_bind2, run_rt, run_guard, run_if, run_opt, pt, at0, at1, at2, at3, at4, atL3, atL4, eqS, frSd, frId, neW, okA, decide_true, decide_false, decide_eq_true_eq, Bool.false_eq_true, Bool.true_eq_false, if_true, if_false, Bool.not_true, Bool.not_false, Option.some.injEq, exists_eq_left', true_and, and_true, and_self, frS, List.mem_cons, List.not_mem_nil, or_false, n3, n4]; exact q
  | swap b c w => unfold Rw.enc; simp only [run_bind, run_bind2, run_rt, run_guard, run_if, run_opt, pt, at0, at1, at2, at3, at4, atL3, atL4, eqS, frSd, frId, neW, okA, decide_true, decide_false, decide_eq_true_eq, Bool.false_eq_true, Bool.true_eq_false, if_true, if_false, Bool.not_true, Bool.not_false, Option.some.injEq, exists_eq_left', true_and, and_true, and_self, frS, List.mem_cons, List.not_mem_nil, or_false, n5, n6]; exact q
  | lett b w => unfold Rw.enc; simp only [run_bind, run_bind2, run_rt, run_guard, run_if, run_opt, pt, at0, at1, at2, at3, at4, atL3, atL4, eqS, frSd, frId, neW, okA, decide_true, decide_false, decide_eq_true_eq, Bool.false_eq_true, Bool.true_eq_false, if_true, if_false, Bool.not_true, Bool.not_false, Option.some.injEq, exists_eq_left', true_and, and_true, and_self, frS, List.mem_cons, List.not_mem_nil, or_false, n7, n8]; exact q
  | say w => unfold Rw.enc; simp only [run_bind, run_bind2, run_rt, run_guard, run_if, run_opt, pt, at0, at1, at2, at3, at4, atL3, atL4, eqS, frSd, frId, neW, okA, decide_true, decide_false, decide_eq_true_eq, Bool.false_eq_true, Bool.true_eq_false, if_true, if_false, Bool.not_true, Bool.not_false, Option.some.injEq, exists_eq_left', true_and, and_true, and_self, frS, List.mem_cons, List.not_mem_nil, or_false, n9, n10]; exact q
  | go t =>
    have ol : pyIx (PyData.tuple [.str "go", .int (t : Int)]) (-(1 : Int)) = some (.int (t : Int)) := atI_last [.str "go"] _
    unfold Rw.enc
    simp only [run_bind, run_bind2, run_rt, run_guard, run_if, run_opt, pt, at0, at1, at2, at3, at4, atL3, atL4, eqS, frSd, frId, neW, okA, decide_true, decide_false, decide_eq_true_eq, Bool.false_eq_true, Bool.true_eq_false, if_true, if_false, Bool.not_true, Bool.not_false, Option.some.injEq, exists_eq_left', true_and, and_true, and_self, frS, frI, ol, List.mem_cons, List.not_mem_nil, or_false, true_or, or_true, List.length_map]
    rw [if_neg (gt (show t ≤ rows.length from o))]
    exact q
  | «unless» lt w w' t =>
    have ol : pyIx (PyData.tuple [.str "unless", .str (sgn lt), w.enc, w'.enc, .int (t : Int)]) (-(1 : Int)) = some (.int (t : Int)) := atI_last [.str "unless", .str (sgn lt), w.enc, w'.enc] _
    unfold Rw.enc
    simp only [run_bind, run_bind2, run_rt, run_guard, run_if, run_opt, pt, at0, at1, at2, at3, at4, atL3, atL4, eqS, frSd, frId, neW, okA, decide_true, decide_false, decide_eq_true_eq, Bool.false_eq_true, Bool.true_eq_false, if_true, if_false, Bool.not_true, Bool.not_false, Option.some.injEq, exists_eq_left', true_and, and_true, and_self, frS, frI, ol, List.mem_cons, List.not_mem_nil, or_false, true_or, or_true, List.length_map]
    rw [if_neg (gt o.2.2)]
    exact q
theorem look_wp {Φ : Unit → Prop} (ok : ∀ rows ∈ rs, ∀ r ∈ rows, r.ok m rows.length) (q : Φ ()) : (m_look_at_targets (rs.map fun x => x.map Rw.enc)).run Φ := by
  unfold m_look_at_targets
  simp only [run_bind, run_rt]
  refine forL_wp (fun _ _ => True) trivial (fun i x s hx _ => ?_) (fun _ _ => q)
  obtain ⟨rows, hr, rfl⟩ := List.mem_map.mp (List.mem_of_getElem? hx)
  unfold m_look_at_targets_L2
  simp only [run_bind, run_rt]
  refine forL_wp (fun _ _ => True) trivial (fun j y t hy _ => ?_) (fun _ _ => trivial)
  obtain ⟨r, hr', rfl⟩ := List.mem_map.mp (List.mem_of_getElem? hy)
  exact look1_wp (ok rows hr r hr') trivial
/-! ### all rows -/
theorem rng_at {a b : Int} {i : Nat} (h : i < (b - a).toNat) : (rng a b)[i]? = some (a + i) := by
  have h' : i < (rng a b).length := by rw [rng_len]; exact h
  have e := List.getElem?_eq_getElem h'
  rw [e]
  exact congrArg some (rng_get e).2
theorem enumS_nil {α : Type} {k : Int} : enumS k ([] : List α) = [] := by
  unfold enumS
  rw [List.zip_nil_right]
theorem enumS_cons {α : Type} {k : Int} {x : α} {xs : List α} : enumS k (x :: xs) = (k, x) :: enumS (k + 1) xs := by
  have e : rng k (k + ((x :: xs).length : Int)) = k :: rng (k + 1) (k + 1 + (xs.length : Int)) := by
    refine List.ext_getElem? fun i => ?_
    cases i with
    | zero =>
      rw [List.getElem?_cons_zero]
      exact (rng_at (by rw [List.length_cons]; omega)).trans (by simp)
    | succ i =>
      rw [List.getElem?_cons_succ]
      by_cases c : i < xs.length
      · rw [rng_at (by rw [List.length_cons]; omega), rng_at (by omega)]
        congr 1
        omega
      · rw [List.getElem?_eq_none (by rw [rng_len, List.length_cons]; omega), List.getElem?_eq_none (by rw [rng_len]; omega)]
  unfold enumS
  rw [e]
  rfl
theorem rows_loop {hs : List (List Rw)} {rest : List Str} {N : Nat} {Φ : List (List PyData) → Prop} (hm : m ≤ 1000) (h8 : hs.length ≤ 90) (hN : N ≤ 999) (hs60 : ∀ rows ∈ hs, rows.length ≤ 60) (oks : ∀ rows ∈ hs, ∀ r ∈ rows, r.ok m 1000) : ∀ {rows cur : List Rw} {k : Int}, cur.length + rows.length ≤ 60 → (∀ r ∈ cur, r.ok m N) → (∀ r ∈ rows, r.ok m N) →
    (∀ k' : Int, (W.forL (enumS k' rest) ((hs ++ [cur ++ rows]).map fun x => x.map Rw.enc) (fun a s => m_read_L1 (m : Int) a.1 a.2 s)).run Φ) → (W.forL (enumS k (rows.map Rw.txt ++ rest)) ((hs ++ [cur]).map fun x => x.map Rw.enc) (fun a s => m_read_L1 (m : Int) a.1 a.2 s)).run Φ
  | [], cur, k, _, _, _, q => by rw [List.append_nil] at q; exact q k
  | r :: rows, cur, k, hl, oc, ok, q => by
    have o := ok r List.mem_cons_self
    rw [List.length_cons] at hl
    rw [List.map_cons, List.cons_append, enumS_cons]
    simp only [W.forL]
    rw [run_bind]
    have tl := tlen o hm (by omega)
    unfold m_read_L1
    rw [run_bind, run_if, if_pos (by simpa using row_hand (r := r)), run_guard]
    refine ⟨⟨by decide +kernel, sl (by omega)⟩, ?_⟩
    rw [spl_row o, run_bind2]
    have upN : ∀ {r : Rw}, r.ok m N → r.ok m 1000 := fun {r} o => by
      cases r with
      | load b c => exact o
      | store c w => exact o
      | swap b c w => exact o
      | lett b w => exact o
      | say w => exact o
      | go t => exact Nat.le_trans (show t ≤ N from o) (by omega)
      | «unless» lt w w' t => exact ⟨o.1, o.2.1, Nat.le_trans o.2.2 (by omega)⟩
    refine take_wp (N := 1000) o hm hN h8 ?_ (by omega) ?_ ?_
    · intro x hx
      rcases List.mem_append.mp hx with h | h
      · exact hs60 x h
      · rw [List.mem_singleton.mp h]; omega
    · intro x hx r' hr'
      rcases List.mem_append.mp hx with h | h
      · exact oks x h r' hr'
      · rw [List.mem_singleton.mp h] at hr'; exact upN (oc r' hr')
    · simp only [run_rt]
      refine rows_loop hm h8 hN hs60 oks (cur := cur ++ [r]) (by rw [List.length_append, List.length_singleton]; omega) ?_ (fun x hx => ok x (List.mem_cons_of_mem _ hx)) ?_
      · intro x hx
        rcases List.mem_append.mp hx with h | h
        · exact oc x h
        · rw [List.mem_singleton.mp h]; exact o
      · intro k'
        have := q k'
        rw [List.append_assoc]
        exact this
theorem hands_loop {Φ : List (List PyData) → Prop} (hm : m ≤ 1000) : ∀ {rs hs : List (List Rw)} {k : Int}, hs.length + rs.length ≤ 8 → (∀ rows ∈ hs, rows.length ≤ 60) → (∀ rows ∈ hs, ∀ r ∈ rows, r.ok m 1000) → (∀ rows ∈ rs, rows.length ≤ 60) → (∀ rows ∈ rs, ∀ r ∈ rows, r.ok m rows.length) →
    Φ ((hs ++ rs).map fun x => x.map Rw.enc) → (W.forL (enumS k (rs.flatMap handL)) (hs.map fun x => x.map Rw.enc) (fun a s => m_read_L1 (m : Int) a.1 a.2 s)).run Φ
  | [], hs, k, _, _, _, _, _, q => by
    rw [List.append_nil] at q
    rw [List.flatMap_nil, enumS_nil]
    exact q
  | rows :: rs, hs, k, hl, h60, oks, r60, ok, q => by
    rw [List.length_cons] at hl
    have hr := r60 rows List.mem_cons_self
    have ho := ok rows List.mem_cons_self
    rw [List.flatMap_cons]
    unfold handL
    rw [List.cons_append, enumS_cons]
    simp only [W.forL]
    rw [run_bind]
    unfold m_read_L1
    rw [run_bind, run_if, if_neg (by simp), run_if, if_neg (by rw [List.length_map]; simp; omega), run_bind]
    refine apd_wp (by rw [List.length_map]; omega) ?_
    simp only [run_rt]
    have e : hs.map (fun x : List Rw => x.map Rw.enc) ++ [([] : List PyData)] = (hs ++ [[]]).map fun x : List Rw => x.map Rw.enc := by simp
    rw [e]
    have up : ∀ {r : Rw}, r.ok m rows.length → r.ok m 1000 := fun {r} o => by
      cases r with
      | load b c => exact o
      | store c w => exact o
      | swap b c w => exact o
      | lett b w => exact o
      | say w => exact o
      | go t => exact Nat.le_trans (show t ≤ rows.length from o) (by omega)
      | «unless» lt w w' t => exact ⟨o.1, o.2.1, Nat.le_trans o.2.2 (by omega)⟩
    refine rows_loop (N := rows.length) hm (by omega) (by omega) h60 oks (cur := []) (by rw [List.length_nil]; omega) (fun r h => by cases h) ho fun k' => ?_
    rw [List.nil_append]
    refine hands_loop hm (hs := hs ++ [rows]) (by rw [List.length_append, List.length_singleton]; omega) ?_ ?_ (fun x hx => r60 x (List.mem_cons_of_mem _ hx)) (fun x hx => ok x (List.mem_cons_of_mem _ hx)) (by rw [List.append_assoc]; exact q)
    · intro x hx
      rcases List.mem_append.mp hx with h | h
      · exact h60 x h
      · rw [List.mem_singleton.mp h]; exact hr
    · intro x hx r hr'
      rcases List.mem_append.mp hx with h | h
      · exact oks x h r hr'
      · rw [List.mem_singleton.mp h] at hr'; exact up (ho r hr')
theorem read_wp {Φ : Int × List (List PyData) → Prop} (o : PgOk m rs) (l0 : 0 < rs.length) (q : Φ ((m : Int), rs.map fun x => x.map Rw.enc)) : (m_read (progT m rs)).run Φ := by
  have hl := prog_len o
  have hm := o.m20
  unfold m_read
  rw [spl_prog o, run_guard, run_bind, run_rt, run_bind, run_opt]
  refine ⟨⟨by decide +kernel, small (by omega)⟩, _, at_head, ?_⟩
  rw [run_bind]
  refine cells_wp' o.m1 o.m20 ?_
  simp only [run_bind, run_rt]
  rw [lines_eq, cut1]
  refine hands_loop (by omega) (hs := []) (by rw [List.length_nil]; have := o.hands; omega) (fun x hx => by cases hx) (fun x hx => by cases hx) o.rows o.ok ?_
  rw [List.nil_append]
  have g : Gd 6 (toPy (rs.map fun x => x.map Rw.enc)) := by
    refine gd_map (by rw [List.length_map]; have := o.hands; omega) fun x hx => ?_
    obtain ⟨rows, hr, rfl⟩ := List.mem_map.mp hx
    exact gd_rows (by have := o.rows rows hr; omega) (o.ok rows hr)
  have hne : (rs.map fun x => x.map Rw.enc) ≠ [] := fun h => by
    have := congrArg List.length h
    rw [List.length_map] at this
    simp at this
    rw [this] at l0
    simp at l0
  rw [run_guard, run_if, eq_nil g hne, if_neg Bool.false_ne_true, run_bind]
  exact ⟨⟨okD_gd g (by decide), okNil⟩, look_wp o.ok q⟩
end
end M

/-! # programs drawn, with any boxes -/
namespace M
open PySem L2 Z
section
variable {N : Nat} {r : WReel}
theorem tplain_wp {Φ : PyData × WReel → Prop} (hr : RlOk N r) (hN : N < 2 ^ 50) (q : ∀ p r', Pln.ok p → RlOk (N + 2) r' → Φ (p.enc, r')) : (m_law_plain r).run Φ := by
  unfold m_law_plain
  rw [run_bind2]
  refine draw_wp hr (by omega) (by decide) (by decide) fun k r1 k0 k1 h1 => ?_
  dsimp only at k0 k1 ⊢
  rw [run_bind, run_rt, run_if]
  by_cases c : k = 0
  · rw [if_pos (by simpa using c), run_bind2]
    refine draw_wp h1 (by omega) (by decide) (by decide) fun x r2 x0 x1 h2 => ?_
    dsimp only at x0 x1 ⊢
    rw [run_bind]
    refine chr_wp x0 x1 ?_
    exact q (.box x.toNat) r2 (show x.toNat < 8 by omega) h2
  · rw [if_neg (by simpa using c), run_bind, run_opt]
    have fin : ∀ t : Int, 0 < t → t ≤ 1000 → (W.bind2 (m_law_draw r1 t) fun t19 reel_ => W.ret (toPy (("number" : Str), t19), reel_)).run Φ := fun t t0 t1 => by
      rw [run_bind2]
      refine draw_wp h1 (by omega) t0 (by omega) fun x r2 x0 x1 h2 => ?_
      exact q (.num x) r2 ⟨x0, by omega⟩ h2
    by_cases c : k = 1
    · subst c
      exact ⟨_, at1, fin _ (by decide) (by decide)⟩
    · obtain rfl : k = 2 := by omega
      exact ⟨_, at2, fin _ (by decide) (by decide)⟩
theorem tworth_wp {Φ : PyData × WReel → Prop} (hr : RlOk N r) (hN : N < 2 ^ 50 - 10) (q : ∀ w r', Wth.ok w → RlOk (N + 5) r' → Φ (w.enc, r')) : (m_law_worth r).run Φ := by
  unfold m_law_worth
  rw [run_bind2]
  refine draw_wp hr (by omega) (by decide) (by decide) fun k r1 k0 k1 h1 => ?_
  simp only [run_bind, run_bind2, run_rt, run_guard, run_if, run_opt, pt, at0, at1, at2, at3, at4, atL3, atL4, eqS, frSd, frId, neW, okA, decide_true, decide_false, decide_eq_true_eq, Bool.false_eq_true, Bool.true_eq_false, if_true, if_false, Bool.not_true, Bool.not_false, Option.some.injEq, exists_eq_left', true_and, and_true, and_self]
  refine tplain_wp h1 (by omega) fun p r2 op h2 => ?_
  dsimp only
  by_cases c : k < 2
  · rw [if_pos c]
    exact q (.one p) r2 op (h2.mo (by omega))
  · rw [if_neg c]
    by_cases c : k = 2
    · subst c
      refine ⟨_, at0, ?_⟩
      refine tplain_wp h2 (by omega) fun p' r3 op' h3 => ?_
      exact q (.plus p p') r3 ⟨op, op'⟩ (h3.mo (by omega))
    · obtain rfl : k = 3 := by omega
      refine ⟨_, at1, ?_⟩
      refine tplain_wp h2 (by omega) fun p' r3 op' h3 => ?_
      exact q (.minus p p') r3 ⟨op, op'⟩ (h3.mo (by omega))
theorem trow_wp {m n : Nat} {Φ : PyData × WReel → Prop} (hr : RlOk N r) (hN : N < 2 ^ 50 - 100) (m0 : 0 < m) (m1 : m ≤ 100) (n1 : n ≤ 100) (q : ∀ w r', Rw.ok m n w → RlOk (N + 20) r' → Φ (w.enc, r')) : (m_law_row r (m : Int) (n : Int)).run Φ := by
  unfold m_law_row
  rw [run_bind2]
  refine draw_wp hr (by omega) (by decide) (by decide) fun kind r1 k0 k1 h1 => ?_
  simp only [run_bind, run_bind2, run_rt, run_guard, run_if, run_opt, pt, at0, at1, at2, at3, at4, atL3, atL4, eqS, frSd, frId, neW, okA, decide_true, decide_false, decide_eq_true_eq, Bool.false_eq_true, Bool.true_eq_false, if_true, if_false, Bool.not_true, Bool.not_false, Option.some.injEq, exists_eq_left', true_and, and_true, and_self]
  refine draw_wp h1 (by omega) (by decide) (by decide) fun bq r2 q0 q1 h2 => ?_
  simp only [run_bind, run_bind2, run_rt, run_guard, run_if, run_opt, pt, at0, at1, at2, at3, at4, atL3, atL4, eqS, frSd, frId, neW, okA, decide_true, decide_false, decide_eq_true_eq, Bool.false_eq_true, Bool.true_eq_false, if_true, if_false, Bool.not_true, Bool.not_false, Option.some.injEq, exists_eq_left', true_and, and_true, and_self]
  refine chr_wp q0 q1 ?_
  refine draw_wp h2 (by omega) (by omega) (by omega) fun cell r3 c0 c1 h3 => ?_
  simp only [run_bind, run_bind2, run_rt, run_guard, run_if, run_opt, pt, at0, at1, at2, at3, at4, atL3, atL4, eqS, frSd, frId, neW, okA, decide_true, decide_false, decide_eq_true_eq, Bool.false_eq_true, Bool.true_eq_false, if_true, if_false, Bool.not_true, Bool.not_false, Option.some.injEq, exists_eq_left', true_and, and_true, and_self]
  refine draw_wp h3 (by omega) (by omega) (by omega) fun to r4 t0 t1 h4 => ?_
  simp only [run_bind, run_bind2, run_rt, run_guard, run_if, run_opt, pt, at0, at1, at2, at3, at4, atL3, atL4, eqS, frSd, frId, neW, okA, decide_true, decide_false, decide_eq_true_eq, Bool.false_eq_true, Bool.true_eq_false, if_true, if_false, Bool.not_true, Bool.not_false, Option.some.injEq, exists_eq_left', true_and, and_true, and_self]
  try dsimp only at k0 k1 q0 q1 c0 c1 t0 t1 ⊢
  have qb : bq.toNat < 8 := by omega
  obtain ⟨cl, rfl⟩ : ∃ cl : Nat, cell = cl := ⟨cell.toNat, by omega⟩
  obtain ⟨t, rfl⟩ : ∃ u : Nat, to = u := ⟨to.toNat, by omega⟩
  have qc : cl < m := by omega
  have qt : t ≤ n := by omega
  by_cases g1 : kind = 0
  · rw [if_pos g1]
    exact q (.load bq.toNat cl) r4 ⟨qb, qc⟩ (h4.mo (by omega))
  rw [if_neg g1]
  by_cases g2 : kind = 1
  · rw [if_pos g2]
    refine tworth_wp h4 (by omega) fun w r6 ow h6 => ?_
    exact q (.store cl w) r6 ⟨qc, ow⟩ (h6.mo (by omega))
  rw [if_neg g2]
  by_cases g3 : kind = 2
  · rw [if_pos g3]
    refine tworth_wp h4 (by omega) fun w r6 ow h6 => ?_
    exact q (.swap bq.toNat cl w) r6 ⟨qb, qc, ow⟩ (h6.mo (by omega))
  rw [if_neg g3]
  by_cases g4 : kind = 3
  · rw [if_pos g4]
    refine tworth_wp h4 (by omega) fun w r6 ow h6 => ?_
    exact q (.lett bq.toNat w) r6 ⟨qb, ow⟩ (h6.mo (by omega))
  rw [if_neg g4]
  by_cases g5 : kind = 4
  · rw [if_pos g5]
    refine tworth_wp h4 (by omega) fun w r6 ow h6 => ?_
    exact q (.say w) r6 ow (h6.mo (by omega))
  rw [if_neg g5]
  by_cases g6 : kind = 5
  · rw [if_pos g6]
    exact q (.go t) r4 qt (h4.mo (by omega))
  rw [if_neg g6]
  refine chrS (by omega) (by omega) fun lt => ?_
  refine tworth_wp h4 (by omega) fun w r6 ow h6 => ?_
  refine tworth_wp h6 (by omega) fun w' r7 ow' h7 => ?_
  exact q (.unless lt w w' t) r7 ⟨ow, ow', qt⟩ (h7.mo (by omega))
theorem tprog_wp {Φ : (Int × List (List PyData)) × WReel → Prop} (hr : RlOk N r) (hN : N < 2 ^ 49) (q : ∀ (m : Nat) (rs : List (List Rw)) r', 0 < rs.length → PgOk m rs → RlOk (N + 20000) r' → Φ (((m : Int), rs.map fun x => x.map Rw.enc), r')) : (m_law_program r).run Φ := by
  unfold m_law_program
  rw [run_bind2]
  refine draw_wp hr (by omega) (by decide) (by decide) fun great r1 g0 g1 h1 => ?_
  simp only [run_bind, run_bind2, run_rt, run_guard, run_if, run_opt, pt, at0, at1, at2, at3, at4, atL3, atL4, eqS, frSd, frId, neW, okA, decide_true, decide_false, decide_eq_true_eq, Bool.false_eq_true, Bool.true_eq_false, if_true, if_false, Bool.not_true, Bool.not_false, Option.some.injEq, exists_eq_left', true_and, and_true, and_self]
  refine draw_wp h1 (by omega) (by decide) (by decide) fun y r2 y0 y1 h2 => ?_
  simp only [run_bind, run_bind2, run_rt, run_guard, run_if, run_opt, pt, at0, at1, at2, at3, at4, atL3, atL4, eqS, frSd, frId, neW, okA, decide_true, decide_false, decide_eq_true_eq, Bool.false_eq_true, Bool.true_eq_false, if_true, if_false, Bool.not_true, Bool.not_false, Option.some.injEq, exists_eq_left', true_and, and_true, and_self]
  try dsimp only at y0 y1 ⊢
  obtain ⟨hs, eh, oh⟩ := at_in (xs := [(4 : Int), 8]) (i := if great > 5 then (1 : Int) else 0) (by split <;> decide) (by split <;> decide) (fun x => 0 < x ∧ x ≤ 8) (by decide)
  refine ⟨hs, eh, ?_⟩
  refine draw_wp h2 (by omega) oh.1 (by omega) fun u r5 u0 u1 h5 => ?_
  dsimp only at u0 u1 ⊢
  obtain ⟨m, em⟩ : ∃ m : Nat, (1 : Int) + y = m := ⟨(1 + y).toNat, by omega⟩
  rw [em]
  have m0 : 0 < m := by omega
  have m1 : m ≤ 20 := by omega
  refine ⟨⟨by decide, by decide, by omega, by omega⟩, ?_⟩
  refine forL_wp (fun i (s : WReel × List (List PyData)) => RlOk (N + 10 + 2000 * i) s.1 ∧ ∃ rs : List (List Rw), rs.length = i ∧ (∀ y ∈ rs, y.length ≤ 60) ∧ (∀ y ∈ rs, ∀ r ∈ y, r.ok m y.length) ∧ s.2 = rs.map fun x => x.map Rw.enc) ⟨h5.mo (by omega), [], rfl, by simp, by simp, rfl⟩ ?_ ?_
  · rintro i x ⟨ra, hds⟩ hx ⟨ha, rs, hl, fw, ors, eh⟩
    dsimp only at ha eh
    have hi := (List.getElem?_eq_some_iff.mp hx).1
    rw [rng_len] at hi
    unfold m_law_program_L1
    obtain ⟨sz, es, os⟩ := at_in (xs := [(7 : Int), 61]) (i := if great = 7 then (1 : Int) else 0) (by split <;> decide) (by split <;> decide) (fun x => 0 < x ∧ x ≤ 61) (by decide)
    simp only [run_bind, run_bind2, run_rt, run_guard, run_if, run_opt, pt, at0, at1, at2, at3, at4, atL3, atL4, eqS, frSd, frId, neW, okA, decide_true, decide_false, decide_eq_true_eq, Bool.false_eq_true, Bool.true_eq_false, if_true, if_false, Bool.not_true, Bool.not_false, Option.some.injEq, exists_eq_left', true_and, and_true, and_self]
    refine ⟨sz, es, ?_⟩
    refine draw_wp ha (by omega) os.1 (by omega) fun size rb s0 s1 hb => ?_
    dsimp only at s0 s1 ⊢
    obtain ⟨n, rfl⟩ : ∃ n : Nat, size = n := ⟨size.toNat, by omega⟩
    refine ⟨⟨by decide, by decide, by omega, by omega⟩, ?_⟩
    refine compSG_wp (fun j s acc => RlOk (N + 11 + 2000 * i + 20 * j) s ∧ ∃ ws : List Rw, ws.length = j ∧ (∀ w ∈ ws, w.ok m n) ∧ acc = ws.map Rw.enc) (small (by rw [rng_len]; omega)) ⟨hb.mo (by omega), [], rfl, by simp, rfl⟩ ?_ ?_
    · rintro j x rc acc hx ⟨hc, ws, hw, ow, rfl⟩
      have hj := (List.getElem?_eq_some_iff.mp hx).1
      rw [rng_len] at hj
      simp only [run_bind, run_bind2, run_rt, run_guard, run_if, run_opt, pt, at0, at1, at2, at3, at4, atL3, atL4, eqS, frSd, frId, neW, okA, decide_true, decide_false, decide_eq_true_eq, Bool.false_eq_true, Bool.true_eq_false, if_true, if_false, Bool.not_true, Bool.not_false, Option.some.injEq, exists_eq_left', true_and, and_true, and_self]
      refine trow_wp hc (by omega) m0 (by omega) (by omega) fun w rd okw hd => ?_
      dsimp only
      refine ⟨hd.mo (by omega), ws ++ [w], by simp [hw], fun y hy => ?_, by simp⟩
      rcases List.mem_append.mp hy with h | h
      · exact ow y h
      · rw [List.mem_singleton.mp h]; exact okw
    · rintro rc acc ⟨hc, ws, hw, ow, rfl⟩
      rw [rng_len] at hw hc
      refine apd_wp (by rw [eh, List.length_map]; omega) ?_
      dsimp only
      refine ⟨hc.mo (by omega), rs ++ [ws], by simp [hl], fun y hy => ?_, fun y hy => ?_, by rw [eh]; simp⟩
      · rcases List.mem_append.mp hy with h | h
        · exact fw y h
        · rw [List.mem_singleton.mp h]; omega
      · rcases List.mem_append.mp hy with h | h
        · exact ors y h
        · rw [List.mem_singleton.mp h]
          intro w hw'
          have := ow w hw'
          rw [show ws.length = n by omega]
          exact this
  · rintro ⟨ra, hds⟩ ⟨ha, rs, hl, fw, ors, eh⟩
    rw [rng_len] at hl ha
    dsimp only at ha eh ⊢
    rw [eh]
    exact q m rs ra (by omega) ⟨m0, m1, by omega, fw, ors⟩ (ha.mo (by omega))
theorem gd_prog {m : Nat} {rs : List (List Rw)} (o : PgOk m rs) : Gd 7 (toPy ((m : Int), rs.map fun x => x.map Rw.enc)) := by
  refine gd_t (Nat.le_of_ble_eq_true rfl) (all2 (.int _) ?_)
  refine gd_map (by rw [List.length_map]; have := o.hands; omega) fun x hx => ?_
  obtain ⟨rows, hr, rfl⟩ := List.mem_map.mp hx
  exact gd_rows (by have := o.rows rows hr; omega) (o.ok rows hr)
end
end M

/-! # k02: rows read -/
namespace M
open PySem L2 Z
theorem alike7 {d : PyData} {Φ : Bool → Prop} (g : Gd 7 d) (k : Φ true) : (m_law_alike d d).run Φ := by
  unfold m_law_alike
  exact alike_self g k
theorem gd_up {n m : Nat} {d : PyData} (g : Gd n d) (h : n ≤ m) : Gd m d := by
  induction h with
  | refl => exact g
  | step _ ih => exact ih.up
theorem sti_last {α : Type} {xs : List α} {x : α} {Φ : List α → Prop} (h : xs ≠ []) (q : Φ (xs.set (xs.length - 1) x)) : (sti xs (-(1 : Int)) x).run Φ := by
  unfold sti
  rw [run_bind, run_opt]
  have hp := List.length_pos_iff.mpr h
  refine ⟨xs.length - 1, ?_, q⟩
  unfold ixN
  rw [if_neg (by decide), if_pos (by omega)]
  congr 1
  omega
theorem at_map {α β : Type} {f : α → β} {xs : List α} {i : Nat} {x : α} (h : xs[i]? = some x) : atI (xs.map f) (i : Int) = some (f x) := atI_nat (by rw [List.getElem?_map, h]; rfl)
theorem setI_at {α : Type} {xs : List α} {i : Nat} {y : α} (h : i < xs.length) : setI xs (i : Int) y = xs.set i y := by
  unfold setI
  have : ixN xs.length (i : Int) = some i := by
    unfold ixN
    rw [if_pos (by omega), if_pos (by omega)]
    rfl
  rw [this]
theorem cut_off {α : Type} {xs : List α} {i : Nat} {y : α} (h : i < xs.length) : Z.cut (xs.set i y) none (some (i : Int)) ++ Z.cut (xs.set i y) (some ((i : Int) + 1)) none = Z.cut xs none (some (i : Int)) ++ Z.cut xs (some ((i : Int) + 1)) none := by
  rw [cut_to (by omega), cut_to (by omega), cut_from (by omega), cut_from (by omega)]
  rw [show ((i : Int) + 1).toNat = i + 1 by omega, show ((i : Int)).toNat = i by omega]
  rw [List.take_set_of_le (by omega), List.drop_set_of_lt (by omega)]
theorem cut_len {α : Type} {xs : List α} {i : Nat} (h : i < xs.length) : (Z.cut xs none (some (i : Int))).length ≤ xs.length ∧ (Z.cut xs (some ((i : Int) + 1)) none).length ≤ xs.length ∧ ∀ x ∈ Z.cut xs none (some (i : Int)) ++ Z.cut xs (some ((i : Int) + 1)) none, x ∈ xs := by
  rw [cut_to (by omega), cut_from (by omega)]
  refine ⟨by rw [List.length_take]; omega, by rw [List.length_drop]; omega, fun x hx => ?_⟩
  rcases List.mem_append.mp hx with h | h
  · exact List.mem_of_mem_take h
  · exact List.mem_of_mem_drop h
theorem law_true {ns : List Int} (hn : ns.length ≤ 63) : (m_law ns).run (fun r => r = true) := by
  unfold m_law
  rw [run_bind]
  refine reel_wp fun r hr => ?_
  obtain ⟨z, ez, z0, z1⟩ : ∃ z : Int, (if (3 : Int) < (ns.length : Int) / 8 then (3 : Int) else (ns.length : Int) / 8) = z ∧ 0 ≤ z ∧ z ≤ 3 := ⟨_, rfl, by split <;> omega, by split <;> omega⟩
  rw [ez, run_bind, run_rt, run_guard, run_guard, run_bind]
  refine ⟨wide_div (b := 4) (by decide) (by decide) (by decide) (by decide), by unfold rngOk; omega, ?_⟩
  refine forC_wp (fun i s => RlOk (30000 * i) s) (hr.mo (by omega)) ?_ ?_
  · intro i x s hx hs
    have hi := (List.getElem?_eq_some_iff.mp hx).1
    rw [rng_len] at hi
    unfold m_law_L1
    rw [run_bind2]
    refine draw_wp hs (by omega) (by decide) (by decide) fun tw r1 t0 t1 h1 => ?_
    dsimp only
    rw [run_bind, run_rt, run_bind2]
    refine tprog_wp h1 (by omega) fun m rs r2 l0 o h2 => ?_
    dsimp only
    rw [run_bind, run_rt, run_bind, run_rt, run_bind2]
    have h8 := o.hands
    refine draw_wp h2 (by omega) (by rw [List.length_map]; omega) (by rw [List.length_map]; omega) fun at_ r3 a0 a1 h3 => ?_
    rw [List.length_map] at a1
    dsimp only
    obtain ⟨a, rfl⟩ : ∃ a : Nat, at_ = a := ⟨at_.toNat, by omega⟩
    obtain ⟨rows, ea⟩ : ∃ rows, rs[a]? = some rows := ⟨rs[a], List.getElem?_eq_getElem (by omega)⟩
    rw [run_bind, run_rt, run_bind]
    -- behind the last hand, made like another one or not
    suffices go : ∀ (Ψ : Ctl Bool WReel → Prop) (rs' : List (List Rw)), rs'.length = rs.length → PgOk m rs' → (∀ r', RlOk (30000 * (i + 1)) r' → Ψ (.nx r')) → (m_law_R1 r3 (m : Int) (a : Int) (rs'.map fun x => x.map Rw.enc)).run Ψ by
      rw [run_if]
      by_cases c : tw = 0
      · rw [if_pos (by simpa using c)]
        simp only [run_bind, run_opt, run_rt]
        refine ⟨_, at_map ea, sti_last (by simpa using List.length_pos_iff.mp l0) ?_⟩
        rw [List.length_map]
        have e : (rs.map fun x => x.map Rw.enc).set (rs.length - 1) (rows.map Rw.enc) = (rs.set (rs.length - 1) rows).map fun x => x.map Rw.enc := by rw [List.map_set]
        rw [e]
        have hr := List.mem_of_getElem? ea
        refine go _ _ (by rw [List.length_set]) ⟨o.m1, o.m20, by rw [List.length_set]; exact o.hands, fun x hx => ?_, fun x hx => ?_⟩ fun r' hr' => hr'
        · rcases List.mem_or_eq_of_mem_set hx with h | h
          · exact o.rows x h
          · rw [h]; exact o.rows rows hr
        · rcases List.mem_or_eq_of_mem_set hx with h | h
          · exact o.ok x h
          · rw [h]; exact o.ok rows hr
      · rw [if_neg (by simpa using c)]
        simp only [run_rt]
        exact go _ rs rfl o fun r' hr' => hr'
    intro Ψ rs' hl o fin
    have l0' : 0 < rs'.length := by omega
    have ha : a < rs'.length := by omega
    have h8 := o.hands
    obtain ⟨rows, ea⟩ : ∃ rows, rs'[a]? = some rows := ⟨rs'[a], List.getElem?_eq_getElem ha⟩
    have g := gd_prog o
    unfold m_law_R1
    rw [run_bind]
    refine law_text_wp o ?_
    rw [run_bind, run_rt, run_bind]
    refine read_wp o l0' ?_
    rw [run_bind, run_rt, run_bind, run_rt, run_bind]
    refine alike7 g ?_
    have am := at_map (f := fun x : List Rw => x.map Rw.enc) ea
    have hr := List.mem_of_getElem? ea
    have r60 := o.rows rows hr
    rw [run_if, if_neg (by simp)]
    simp only [run_bind, run_opt, run_rt, am, Option.some.injEq, exists_eq_left']
    refine apd_wp (by rw [List.length_map]; omega) ?_
    rw [setI_at (by rw [List.length_map]; exact ha)]
    have hm : a < (rs'.map fun x => x.map Rw.enc).length := by rw [List.length_map]; exact ha
    have hm' : ∀ y, a < ((rs'.map fun x => x.map Rw.enc).set a y).length := fun y => by rw [List.length_set]; exact hm
    have c1 := cut_len hm
    have c2 := cut_len (hm' (rows.map Rw.enc ++ [toPy (("say" : Str), (("number" : Str), (0 : Int)))]))
    rw [List.length_set] at c2
    rw [List.length_map] at c1 c2
    rw [run_guard]
    refine ⟨small (by omega), ?_⟩
    rw [run_bind, run_rt, run_guard]
    refine ⟨small (by omega), ?_⟩
    rw [cut_off hm, run_bind]
    have go : Gd 7 (toPy (Z.cut (rs'.map fun x => x.map Rw.enc) none (some (a : Int)) ++ Z.cut (rs'.map fun x => x.map Rw.enc) (some ((a : Int) + 1)) none)) := by
      refine gd_up (gd_map (n := 5) (by rw [List.length_append]; omega) fun x hx => ?_) (by decide)
      obtain ⟨rows, hr, rfl⟩ := List.mem_map.mp (c1.2.2 x hx)
      exact gd_rows (by have := o.rows rows hr; omega) (o.ok rows hr)
    refine alike7 go ?_
    rw [run_bind, run_if, if_neg (by simp), run_bind]
    refine read_wp o l0' ?_
    rw [run_bind]
    refine alike7 g ?_
    simp only [run_rt, run_if, Bool.not_true, Bool.false_eq_true, if_false]
    exact fin _ (h3.mo (by omega))
  · intro s hs
    unfold W.after
    dsimp only
    rw [run_rt]
end M

namespace M
open PySem L2 Z
section
def topS (i : Nat) : Stmt := PySem.Challenge.pw_fewnotes_k02_rows_read.main.body.getD i (.Pass ⟨0, 0, 0, 0⟩)
variable {P : Program} {w : World} {K : PySem.W.Frag} {mg : Str → Option Value} {base : Heap} {cl : Nat → Addr}
def sp_number_of (K : PySem.W.Frag) (cl : Nat → Addr) : Sp := fun vs H Q E => ∃ (amb : Grp) (Ho : Hp) (v0 : V) (x0 : Str), vs = [v0] ∧ Zs amb H Ho ∧ Z.D K Ho v0 x0 ∧ (m_number_of x0).run fun r => ∀ v H' Ho', Same Ho Ho' → Zs amb H' Ho' → Z.D K Ho' v r → Q v H'
abbrev s_number_of : Stmt := topS 13
theorem sc_number_of : FnScope ["word", "sign"] ["word"] (defScope s_number_of) := ⟨rfl, rfl, rfl, by decide +kernel, rfl, by decide +kernel, by decide +kernel⟩
theorem ok_number_of {f : Addr} {fd : FuncData} (F : Fun K "number_of" "number_of" s_number_of f fd) (m_len : mg "len" = none) (m_int : mg "int" = none) {tk_FIGURES : Tok} (g_FIGURES : mg "FIGURES" = some (.str ("0123456789" : Str) tk_FIGURES)) :
    FnOk P w K mg base CX0 1 f fd ["word"] (sp_number_of K cl) := by
  refine F.ok sc_number_of (fun vs H Q E h => ?_) (fun cdv A outer s H vs Q E hr h => ?_)
  · obtain ⟨amb, Ho, v_word_, word_, rfl, _⟩ := h
    rfl
  · obtain ⟨amb, Ho, v_word_, word_, rfl, z, d_word_, hw⟩ := h
    refine ⟨_, pss_cons (ps_if (PW.pt (pw_or (pt_cmpR (op_lt) (pe_callB zlenS (by rfl) m_len (by decide +kernel) (pa_cons (pv 0) (pa_nil))) (pe_int) (nomark _)) (pw_or (pt_cmpR (op_gt) (pe_callB zlenS (by rfl) m_len (by decide +kernel) (pa_cons (pv 0) (pa_nil))) (pe_int) (nomark _)) (pw_or1 (PW.pt (pw_and (pt_cmpR (op_gt) (pe_callB zlenS (by rfl) m_len (by decide +kernel) (pa_cons (pv 0) (pa_nil))) (pe_int) (nomark _)) (pw_and1 (pt_cmpR (op_eq) (pe_ix ix_str (pv 0) (pe_int) (fun _ _ => rfl)) (pe_str) (nomark _))))))))) (pss_cons (ps_ret (pe_non)) (pss_nil)) (pss_nil)) (pss_cons (ps_for PassesOwn.never rfl (pi_str (pv 0)) (pg_name (i := 1) sc_number_of.nd rfl (Or.inl rfl)) (pss_cons (ps_if (pt_cmpR (zop_notinStr) (pv 1) (pe_glob (v := .str ("0123456789" : Str)) rfl g_FIGURES ⟨_, rfl⟩) rfl) (pss_cons (ps_ret (pe_non)) (pss_nil)) (pss_nil)) (pss_nil))) (pss_cons (ps_ret (pe_callTy zintS (by rfl) m_int (by decide +kernel) (pa_cons (pv 0) (pa_nil)))) (pss_nil))), ?_⟩
    obtain rfl := d_str d_word_
    refine y_ifS ?_
    refine y_or ?_
    refine y_test ?_
    refine y_op ?_
    refine y_cb ?_
    refine y_cons ?_
    refine y_var rfl ?_
    refine y_nil ?_
    refine y_lenStr hw.1 ?_
    replace hw := (run_gd hw).2
    refine y_c ?_
    refine y_i0 ?_
    refine ⟨_, rfl, ?_⟩
    refine w_orJ hw (fun (s : Bool) (v : Bool) (H2 : Hp) => ∃ (Ho2 : Hp), Same Ho Ho2 ∧ Zs amb H2 Ho2 ∧ v = s) (fun hb hw => ?_) (fun hb hw => ?_) ?_
    · exact (run_ret hw) _ _ ⟨_, (Same.refl _), z, rfl⟩
    · refine y_or ?_
      refine y_test ?_
      refine y_op ?_
      refine y_cb ?_
      refine y_cons ?_
      refine y_var rfl ?_
      refine y_nil ?_
      refine y_lenStr hw.1 ?_
      replace hw := (run_gd hw).2
      refine y_c ?_
      refine y_i0 ?_
      refine ⟨_, rfl, ?_⟩
      refine w_orJ hw (fun (s : Bool) (v : Bool) (H2 : Hp) => ∃ (Ho2 : Hp), Same Ho Ho2 ∧ Zs amb H2 Ho2 ∧ v = s) (fun hb hw => ?_) (fun hb hw => ?_) ?_
      · exact (run_ret hw) _ _ ⟨_, (Same.refl _), z, rfl⟩
      · refine y_and ?_
        refine y_test ?_
        refine y_op ?_
        refine y_cb ?_
        refine y_cons ?_
        refine y_var rfl ?_
        refine y_nil ?_
        refine y_lenStr hw.1 ?_
        replace hw := (run_gd hw).2
        refine y_c ?_
        refine y_i0 ?_
        refine ⟨_, rfl, ?_⟩
        refine w_andJ hw (fun (s : Bool) (v : Bool) (H2 : Hp) => ∃ (Ho2 : Hp), Same Ho Ho2 ∧ Zs amb H2 Ho2 ∧ v = s) (fun hb hw => ?_) (fun hb hw => ?_) ?_
        · refine y_test ?_
          refine y_op ?_
          refine y_op ?_
          refine y_var rfl ?_
          refine y_c ?_
          refine y_ixStr hw (fun t1 hw => ?_)
          refine y_c ?_
          refine y_eqs ?_
          refine ⟨_, rfl, ?_⟩
          exact (run_ret hw) _ _ ⟨_, (Same.refl _), z, rfl⟩
        · exact (run_ret hw) _ _ ⟨_, (Same.refl _), z, rfl⟩
        rintro t2 v H ⟨Ho, e, z, rfl⟩ hw
        have es5 := (Same.refl _).trans e
        exact (run_ret hw) _ _ ⟨_, es5, z, rfl⟩
      rintro t6 v H ⟨Ho, e, z, rfl⟩ hw
      have es9 := (Same.refl _).trans e
      exact (run_ret hw) _ _ ⟨_, es9, z, rfl⟩
    rintro t10 v H ⟨Ho, e, z, rfl⟩ hw
    have es13 := (Same.refl _).trans e
    refine y_cases hw (fun hb hw => ?_) (fun hb hw => ?_)
    · refine y_ret ?_
      refine y_c ?_
      exact (run_ret hw) _ _ _ es13 z (show Z.D K Ho V.non (none : (Option Int)) from Dq.non)
    · refine y_nxS ?_
      refine y_for ?_
      refine k_iStr ?_
      refine y_var rfl ?_
      refine k_srcS (K := K) (Ho := Ho) (fun J T => ?_)
      refine y_forC T hw (fun (s : Unit) (σ : L2.St) (H Ho : Hp) => ∃ (y_sign_ : Option V), σ = [some (V.str word_), y_sign_] ∧ Zs amb H Ho) ⟨_, rfl, z⟩ ?_ ?_ ?_ ?_
      · intro s σ H Ho hI
        obtain ⟨y_sign_, rfl, z⟩ := hI
        exact ⟨_, z, mgN⟩
      · intro s σ H Ho H2 Ho2 hI e t
        obtain ⟨y_sign_, rfl, z⟩ := hI
        exact ⟨_, rfl, t _ z⟩
      · intro sign_ v_sign_ s σ H Ho N B e hI d_sign_ hw
        obtain ⟨y_sign_, rfl, z⟩ := hI
        have es14 := es13.trans e
        obtain rfl := d_str d_sign_
        refine y_gname (σ' := [some (V.str word_), some (V.str sign_)]) rfl ?_
        refine y_ifS ?_
        refine y_test ?_
        refine y_op ?_
        refine y_var rfl ?_
        refine y_c ?_
        refine y_notinStr ?_
        refine ⟨_, rfl, ?_⟩
        refine y_cases hw (fun hb hw => ?_) (fun hb hw => ?_)
        · refine y_ret ?_
          refine y_c ?_
          exact (ctl_rt (run_ret hw)) _ _ _ (es14.trans (Same.refl _)) z (show Z.D K Ho V.non (none : (Option Int)) from Dq.non)
        · refine y_nxS ?_
          exact ctl_nx (run_ret hw) _ _ _ (Same.refl _) ⟨_, rfl, z⟩
      intro s σ H Ho e hI hw
      obtain ⟨y_sign_, rfl, z⟩ := hI
      have es15 := es13.trans e
      refine y_ret ?_
      refine y_cb ?_
      refine y_cons ?_
      refine y_var rfl ?_
      refine y_nil ?_
      refine y_intS hw (fun t16 hw => ?_)
      exact (run_ret hw) _ _ _ es15 z (show Z.D K Ho _ (some t16) from (Dq.int _))
def sp_box_of (K : PySem.W.Frag) (cl : Nat → Addr) : Sp := fun vs H Q E => ∃ (amb : Grp) (Ho : Hp) (v0 : V) (x0 : Str), vs = [v0] ∧ Zs amb H Ho ∧ Z.D K Ho v0 x0 ∧ (m_box_of x0).run fun r => ∀ v H' Ho', Same Ho Ho' → Zs amb H' Ho' → Z.D K Ho' v r → Q v H'
abbrev s_box_of : Stmt := topS 14
theorem sc_box_of : FnScope ["word"] ["word"] (defScope s_box_of) := ⟨rfl, rfl, rfl, by decide +kernel, rfl, by decide +kernel, by decide +kernel⟩
theorem ok_box_of {f : Addr} {fd : FuncData} (F : Fun K "box_of" "box_of" s_box_of f fd) (m_len : mg "len" = none) {tk_BOXES : Tok} (g_BOXES : mg "BOXES" = some (.str ("abcdefgh" : Str) tk_BOXES)) :
    FnOk P w K mg base CX0 1 f fd ["word"] (sp_box_of K cl) := by
  refine F.ok sc_box_of (fun vs H Q E h => ?_) (fun cdv A outer s H vs Q E hr h => ?_)
  · obtain ⟨amb, Ho, v_word_, word_, rfl, _⟩ := h
    rfl
  · obtain ⟨amb, Ho, v_word_, word_, rfl, z, d_word_, hw⟩ := h
    refine ⟨_, pss_cons (ps_if (PW.pt (pw_and (pt_cmpR (op_eq) (pe_callB zlenS (by rfl) m_len (by decide +kernel) (pa_cons (pv 0) (pa_nil))) (pe_int) (nomark _)) (pw_and1 (pt_cmpR (zop_inStr) (pv 0) (pe_glob (v := .str ("abcdefgh" : Str)) rfl g_BOXES ⟨_, rfl⟩) rfl)))) (pss_cons (ps_ret (pv 0)) (pss_nil)) (pss_nil)) (pss_cons (ps_ret (pe_non)) (pss_nil)), ?_⟩
    obtain rfl := d_str d_word_
    refine y_ifS ?_
    refine y_and ?_
    refine y_test ?_
    refine y_op ?_
    refine y_cb ?_
    refine y_cons ?_
    refine y_var rfl ?_
    refine y_nil ?_
    refine y_lenStr hw.1 ?_
    replace hw := (run_gd hw).2
    refine y_c ?_
    refine y_eqi ?_
    refine ⟨_, rfl, ?_⟩
    refine w_andJ hw (fun (s : Bool) (v : Bool) (H2 : Hp) => ∃ (Ho2 : Hp), Same Ho Ho2 ∧ Zs amb H2 Ho2 ∧ v = s) (fun hb hw => ?_) (fun hb hw => ?_) ?_
    · refine y_test ?_
      refine y_op ?_
      refine y_var rfl ?_
      refine y_c ?_
      refine y_inStr ?_
      refine ⟨_, rfl, ?_⟩
      exact (run_ret hw) _ _ ⟨_, (Same.refl _), z, rfl⟩
    · exact (run_ret hw) _ _ ⟨_, (Same.refl _), z, rfl⟩
    rintro t1 v H ⟨Ho, e, z, rfl⟩ hw
    have es4 := (Same.refl _).trans e
    refine y_cases hw (fun hb hw => ?_) (fun hb hw => ?_)
    · refine y_ret ?_
      refine y_var rfl ?_
      exact (run_ret hw) _ _ _ es4 z (show Z.D K Ho _ (some word_) from (Dq.str _))
    · refine y_nxS ?_
      refine y_ret ?_
      refine y_c ?_
      exact (run_ret hw) _ _ _ es4 z (show Z.D K Ho V.non (none : (Option Str)) from Dq.non)
def sp_plain_of (K : PySem.W.Frag) (cl : Nat → Addr) : Sp := fun vs H Q E => ∃ (amb : Grp) (Ho : Hp) (v0 : V) (x0 : Str), vs = [v0] ∧ Zs amb H Ho ∧ Z.D K Ho v0 x0 ∧ (m_plain_of x0).run fun r => ∀ v H' Ho', Same Ho Ho' → Zs amb H' Ho' → Z.D K Ho' v r → Q v H'
abbrev s_plain_of : Stmt := topS 15
theorem sc_plain_of : FnScope ["word", "number"] ["word"] (defScope s_plain_of) := ⟨rfl, rfl, rfl, by decide +kernel, rfl, by decide +kernel, by decide +kernel⟩
theorem ok_plain_of {f : Addr} {fd : FuncData} (F : Fun K "plain_of" "plain_of" s_plain_of f fd) {f_number_of : Addr} {fd_number_of : FuncData} (c_number_of : Cal P w K mg base CX0 "number_of" ["word"] 1 (sp_number_of K cl) f_number_of fd_number_of) {f_box_of : Addr} {fd_box_of : FuncData} (c_box_of : Cal P w K mg base CX0 "box_of" ["word"] 1 (sp_box_of K cl) f_box_of fd_box_of) :
    FnOk P w K mg base CX0 2 f fd ["word"] (sp_plain_of K cl) := by
  refine F.ok sc_plain_of (fun vs H Q E h => ?_) (fun cdv A outer s H vs Q E hr h => ?_)
  · obtain ⟨amb, Ho, v_word_, word_, rfl, _⟩ := h
    rfl
  · obtain ⟨amb, Ho, v_word_, word_, rfl, z, d_word_, hw⟩ := h
    refine ⟨_, pss_cons (ps_set (i := 1) sc_plain_of.nd rfl (Or.inl rfl) (pe_call c_number_of.ok (hr.mono (by decide)) (by rfl) c_number_of.g c_number_of.kp c_number_of.b .nil pass0 (pa_cons (pv 0) (pa_nil)))) (pss_cons (ps_if (pt_cmpR (op_notN) (pv 1) (pe_non) (nomark _)) (pss_cons (ps_ret (pe_tup (pa_cons (pe_str) (pa_cons (pv 1) (pa_nil))))) (pss_nil)) (pss_nil)) (pss_cons (ps_if (pt_cmpR (op_notN) (pe_call c_box_of.ok (hr.mono (by decide)) (by rfl) c_box_of.g c_box_of.kp c_box_of.b .nil pass0 (pa_cons (pv 0) (pa_nil))) (pe_non) (nomark _)) (pss_cons (ps_ret (pe_tup (pa_cons (pe_str) (pa_cons (pv 0) (pa_nil))))) (pss_nil)) (pss_nil)) (pss_cons (ps_ret (pe_non)) (pss_nil)))), ?_⟩
    obtain rfl := d_str d_word_
    refine l_asg (fun v => [_, some v]) (fun _ => rfl) ?_
    refine y_call ?_
    refine y_cons ?_
    refine y_var rfl ?_
    refine y_nil ?_
    refine ⟨amb, _, _, _, rfl, z, (Dq.str _), ?_⟩
    refine run_mono3 hw (fun t1 hw v H Ho e z d2 => ?_)
    have es4 := (Same.refl _).trans e
    refine l_d (K := K) (Ho := Ho) hw d2 (fun number_ v_number_ d_number_ hw => ?_)
    refine y_ifS ?_
    refine y_test ?_
    refine y_op ?_
    refine y_var rfl ?_
    refine y_c ?_
    refine ⟨rfl, ?_⟩
    rw [dec_non d_number_ hw.1, not_isNone]
    replace hw := (run_gd hw).2
    refine ⟨_, rfl, ?_⟩
    refine y_cases hw (fun hb hw => ?_) (fun hb hw => ?_)
    · refine y_ret ?_
      refine k_tup ?_
      refine y_cons ?_
      refine y_c ?_
      refine y_cons ?_
      refine y_var rfl ?_
      refine y_nil ?_
      refine k_tupk (K := K) (x := (("number" : Str), number_)) z (by show 2 ≤ sizeLine; decide) _ rfl (DqAll.cons (Dq.str _) (DqAll.cons d_number_ DqAll.nil)) (fun p H Ho e z d5 => ?_)
      replace d_number_ := D.mo d_number_ e
      have es6 := es4.trans e
      have d7 := (show Z.D K Ho _ (toPy (("number" : Str), number_)) from d5)
      exact (run_ret hw) _ _ _ es6 z d7
    · refine y_nxS ?_
      refine y_ifS ?_
      refine y_test ?_
      refine y_op ?_
      refine y_call ?_
      refine y_cons ?_
      refine y_var rfl ?_
      refine y_nil ?_
      refine ⟨amb, _, _, _, rfl, z, (Dq.str _), ?_⟩
      refine run_mono3 hw (fun t8 hw v H Ho e z d9 => ?_)
      have es11 := es4.trans e
      refine y_c ?_
      refine ⟨rfl, ?_⟩
      rw [dec_non d9 hw.1, not_isNone]
      replace hw := (run_gd hw).2
      refine ⟨_, rfl, ?_⟩
      refine y_cases hw (fun hb hw => ?_) (fun hb hw => ?_)
      · refine y_ret ?_
        refine k_tup ?_
        refine y_cons ?_
        refine y_c ?_
        refine y_cons ?_
        refine y_var rfl ?_
        refine y_nil ?_
        refine k_tupk (K := K) (x := (("box" : Str), word_)) z (by show 2 ≤ sizeLine; decide) _ rfl (DqAll.cons (Dq.str _) (DqAll.cons (Dq.str _) DqAll.nil)) (fun p H Ho e z d12 => ?_)
        have es13 := es11.trans e
        have d14 := (show Z.D K Ho _ (toPy (("box" : Str), word_)) from d12)
        exact (run_ret hw) _ _ _ es13 z d14
      · refine y_nxS ?_
        refine y_ret ?_
        refine y_c ?_
        exact (run_ret hw) _ _ _ es11 z (show Z.D K Ho _ (toPy ()) from Dq.non)
def sp_worth_of (K : PySem.W.Frag) (cl : Nat → Addr) : Sp := fun vs H Q E => ∃ (amb : Grp) (Ho : Hp) (v0 : V) (x0 : Str), vs = [v0] ∧ Zs amb H Ho ∧ Z.D K Ho v0 x0 ∧ (m_worth_of x0).run fun r => ∀ v H' Ho', Same Ho Ho' → Zs amb H' Ho' → Z.D K Ho' v r → Q v H'
abbrev s_worth_of : Stmt := topS 16
theorem sc_worth_of : FnScope ["word", "sign", "joined", "left", "mark", "right", "one", "other"] ["word"] (defScope s_worth_of) := ⟨rfl, rfl, rfl, by decide +kernel, rfl, by decide +kernel, by decide +kernel⟩
theorem ok_worth_of {f : Addr} {fd : FuncData} (F : Fun K "worth_of" "worth_of" s_worth_of f fd) {f_plain_of : Addr} {fd_plain_of : FuncData} (c_plain_of : Cal P w K mg base CX0 "plain_of" ["word"] 2 (sp_plain_of K cl) f_plain_of fd_plain_of) :
    FnOk P w K mg base CX0 3 f fd ["word"] (sp_worth_of K cl) := by
  refine F.ok sc_worth_of (fun vs H Q E h => ?_) (fun cdv A outer s H vs Q E hr h => ?_)
  · obtain ⟨amb, Ho, v_word_, word_, rfl, _⟩ := h
    rfl
  · obtain ⟨amb, Ho, v_word_, word_, rfl, z, d_word_, hw⟩ := h
    refine ⟨_, pss_cons (ps_for PassesOwn.never rfl (zpi_list (K := K) rfl (pe_lst (pa_cons (pe_tup (pa_cons (pe_str) (pa_cons (pe_str) (pa_nil)))) (pa_cons (pe_tup (pa_cons (pe_str) (pa_cons (pe_str) (pa_nil)))) (pa_nil))))) (zpg_tup (K := K) (n := 2) rfl rfl (pgs_cons (pg_name (i := 1) sc_worth_of.nd rfl (Or.inl rfl)) (pgs_cons (pg_name (i := 2) sc_worth_of.nd rfl (Or.inl rfl)) (pgs_nil)))) (pss_cons (ps_if (pt_cmpR (zop_inStr) (pv 1) (pv 0) rfl) (pss_cons (ps_asg (pe_m1 PySem.F.slot_str_partition PySem.F.type_str_partition zmt_part (pv 0) (pv 1)) (zpg_tup (K := K) (n := 3) rfl rfl (pgs_cons (pg_name (i := 3) sc_worth_of.nd rfl (Or.inl rfl)) (pgs_cons (pg_name (i := 4) sc_worth_of.nd rfl (Or.inl rfl)) (pgs_cons (pg_name (i := 5) sc_worth_of.nd rfl (Or.inl rfl)) (pgs_nil)))))) (pss_cons (ps_set (i := 6) sc_worth_of.nd rfl (Or.inl rfl) (pe_call c_plain_of.ok (hr.mono (by decide)) (by rfl) c_plain_of.g c_plain_of.kp c_plain_of.b .nil pass0 (pa_cons (pv 3) (pa_nil)))) (pss_cons (ps_set (i := 7) sc_worth_of.nd rfl (Or.inl rfl) (pe_call c_plain_of.ok (hr.mono (by decide)) (by rfl) c_plain_of.g c_plain_of.kp c_plain_of.b .nil pass0 (pa_cons (pv 5) (pa_nil)))) (pss_cons (ps_if (PW.pt (pw_or (pt_cmpR (op_isN) (pv 6) (pe_non) (nomark _)) (pw_or1 (pt_cmpR (op_isN) (pv 7) (pe_non) (nomark _))))) (pss_cons (ps_ret (pe_non)) (pss_nil)) (pss_nil)) (pss_cons (ps_ret (pe_tup (pa_cons (pv 2) (pa_cons (pv 6) (pa_cons (pv 7) (pa_nil)))))) (pss_nil)))))) (pss_nil)) (pss_nil))) (pss_cons (ps_ret (pe_call c_plain_of.ok (hr.mono (by decide)) (by rfl) c_plain_of.g c_plain_of.kp c_plain_of.b .nil pass0 (pa_cons (pv 0) (pa_nil)))) (pss_nil)), ?_⟩
    obtain rfl := d_str d_word_
    refine y_for ?_
    refine k_iList ?_
    refine k_lst ?_
    refine y_cons ?_
    refine k_tup ?_
    refine y_cons ?_
    refine y_c ?_
    refine y_cons ?_
    refine y_c ?_
    refine y_nil ?_
    refine k_tupk (K := K) (x := (("+" : Str), ("plus" : Str))) z (by show 2 ≤ sizeLine; decide) _ rfl (DqAll.cons (Dq.str _) (DqAll.cons (Dq.str _) DqAll.nil)) (fun p H Ho e z d1 => ?_)
    have es2 := (Same.refl _).trans e
    refine y_cons ?_
    refine k_tup ?_
    refine y_cons ?_
    refine y_c ?_
    refine y_cons ?_
    refine y_c ?_
    refine y_nil ?_
    refine k_tupk (K := K) (x := (("-" : Str), ("minus" : Str))) z (by show 2 ≤ sizeLine; decide) _ rfl (DqAll.cons (Dq.str _) (DqAll.cons (Dq.str _) DqAll.nil)) (fun p H Ho e z d3 => ?_)
    replace d1 := D.mo d1 e
    have es4 := es2.trans e
    refine y_nil ?_
    refine k_lstk (K := K) (xs := ([(("+" : Str), ("plus" : Str)), (("-" : Str), ("minus" : Str))] : (List (Str × Str)))) z (DqAll.cons d1 (DqAll.cons d3 DqAll.nil)) (by show 2 ≤ sizeLine; decide) (fun H p5 ws6 z d7 => ?_)
    replace z : Zs ([(p5, HO.lst ws6)] ++ amb) H Ho := z
    have o8 := OL.mk (p := p5) d7
    refine k_srcL (r0 := [(p5, HO.lst ws6)]) (OL.lv o8 mgE) mg0 z (fun J T => ?_)
    refine y_forC T hw (fun (s : Unit) (σ : L2.St) (H Ho : Hp) => ∃ (y_sign_ : Option V) (y_joined_ : Option V) (y_left_ : Option V) (y_mark_ : Option V) (y_right_ : Option V) (y_one_ : Option V) (y_other_ : Option V), σ = [some (V.str word_), y_sign_, y_joined_, y_left_, y_mark_, y_right_, y_one_, y_other_] ∧ Zs ([(p5, HO.lst ws6)] ++ amb) H Ho) ⟨_, _, _, _, _, _, _, rfl, z⟩ ?_ ?_ ?_ ?_
    · intro s σ H Ho hI
      obtain ⟨y_sign_, y_joined_, y_left_, y_mark_, y_right_, y_one_, y_other_, rfl, z⟩ := hI
      exact ⟨_, z, mg0⟩
    · intro s σ H Ho H2 Ho2 hI e t
      obtain ⟨y_sign_, y_joined_, y_left_, y_mark_, y_right_, y_one_, y_other_, rfl, z⟩ := hI
      exact ⟨_, _, _, _, _, _, _, rfl, t _ z⟩
    · intro a x s σ H Ho N B e hI dx hw
      obtain ⟨y_sign_, y_joined_, y_left_, y_mark_, y_right_, y_one_, y_other_, rfl, z⟩ := hI
      have es9 := es4.trans e
      obtain ⟨sign_, joined_⟩ := a
      refine c_gt2 (fun v_sign_ v_joined_ => [some (V.str word_), some v_sign_, some v_joined_, y_left_, y_mark_, y_right_, y_one_, y_other_]) (fun _ _ => rfl) dx z (fun v_sign_ v_joined_ d_sign_ d_joined_ => ?_)
      obtain rfl := d_str d_sign_
      obtain rfl := d_str d_joined_
      refine y_ifS ?_
      refine y_test ?_
      refine y_op ?_
      refine y_var rfl ?_
      refine y_var rfl ?_
      refine y_inStr ?_
      refine ⟨_, rfl, ?_⟩
      refine y_cases hw (fun hb hw => ?_) (fun hb hw => ?_)
      · refine y_asgG ?_
        refine y_tm1 ?_
        refine y_var rfl ?_
        refine y_tm1s ?_
        refine y_var rfl ?_
        refine y_ptn (K := K) z hw.1 (fun p H Ho e z d10 => ?_)
        replace hw := (run_gd hw).2
        have es11 := (Same.refl _).trans e
        refine l_u2 hw d10 (fun u12 d13 hw => ?_)
        obtain ⟨left_, mark_, right_⟩ := u12
        refine c_gt3 (fun v_left_ v_mark_ v_right_ => [_, _, _, some v_left_, some v_mark_, some v_right_, _, _]) (fun _ _ _ => rfl) d13 z (fun v_left_ v_mark_ v_right_ d_left_ d_mark_ d_right_ => ?_)
        obtain rfl := d_str d_left_
        obtain rfl := d_str d_mark_
        obtain rfl := d_str d_right_
        refine l_asg (fun v => [_, _, _, _, _, _, some v, _]) (fun _ => rfl) ?_
        refine y_call ?_
        refine y_cons ?_
        refine y_var rfl ?_
        refine y_nil ?_
        refine ⟨([(p5, HO.lst ws6)] ++ amb), _, _, _, rfl, z, (Dq.str _), ?_⟩
        refine run_mono3 hw (fun t14 hw v H Ho e z d15 => ?_)
        have es17 := es11.trans e
        refine l_d (K := K) (Ho := Ho) hw d15 (fun one_ v_one_ d_one_ hw => ?_)
        refine l_asg (fun v => [_, _, _, _, _, _, _, some v]) (fun _ => rfl) ?_
        refine y_call ?_
        refine y_cons ?_
        refine y_var rfl ?_
        refine y_nil ?_
        refine ⟨([(p5, HO.lst ws6)] ++ amb), _, _, _, rfl, z, (Dq.str _), ?_⟩
        refine run_mono3 hw (fun t18 hw v H Ho e z d19 => ?_)
        replace d_one_ := D.mo d_one_ e
        have es21 := es17.trans e
        refine l_d (K := K) (Ho := Ho) hw d19 (fun other_ v_other_ d_other_ hw => ?_)
        refine y_ifS ?_
        refine y_or ?_
        refine y_test ?_
        refine y_op ?_
        refine y_var rfl ?_
        refine y_c ?_
        refine ⟨rfl, ?_⟩
        rw [dec_nonP d_one_]
        refine ⟨_, rfl, ?_⟩
        refine w_orJ hw (fun (s : Bool) (v : Bool) (H2 : Hp) => ∃ (Ho2 : Hp), Same Ho Ho2 ∧ Zs ([(p5, HO.lst ws6)] ++ amb) H2 Ho2 ∧ v = s) (fun hb hw => ?_) (fun hb hw => ?_) ?_
        · exact (run_ret hw) _ _ ⟨_, (Same.refl _), z, rfl⟩
        · refine y_test ?_
          refine y_op ?_
          refine y_var rfl ?_
          refine y_c ?_
          refine ⟨rfl, ?_⟩
          rw [dec_nonP d_other_]
          refine ⟨_, rfl, ?_⟩
          exact (run_ret hw) _ _ ⟨_, (Same.refl _), z, rfl⟩
        rintro t22 v H ⟨Ho, e, z, rfl⟩ hw
        replace d_one_ := D.mo d_one_ e
        replace d_other_ := D.mo d_other_ e
        have es25 := es21.trans e
        refine y_cases hw (fun hb hw => ?_) (fun hb hw => ?_)
        · refine y_ret ?_
          refine y_c ?_
          replace z : Zs amb _ _ := z.go [[(p5, HO.lst ws6)]] amb []
          exact (ctl_rt (run_ret hw)) _ _ _ (es9.trans es25) z (show Z.D K Ho _ (toPy ()) from Dq.non)
        · refine y_nxS ?_
          refine y_ret ?_
          refine k_tup ?_
          refine y_cons ?_
          refine y_var rfl ?_
          refine y_cons ?_
          refine y_var rfl ?_
          refine y_cons ?_
          refine y_var rfl ?_
          refine y_nil ?_
          refine k_tupk (K := K) (x := (⟨joined_, one_, other_⟩ : (P3 Str PyData PyData))) z (by show 3 ≤ sizeLine; decide) _ rfl (DqAll.cons (Dq.str _) (DqAll.cons d_one_ (DqAll.cons d_other_ DqAll.nil))) (fun p H Ho e z d26 => ?_)
          replace d_one_ := D.mo d_one_ e
          replace d_other_ := D.mo d_other_ e
          have es27 := es25.trans e
          have d28 := (show Z.D K Ho _ (toPy (⟨joined_, one_, other_⟩ : (P3 Str PyData PyData))) from d26)
          replace z : Zs amb _ _ := z.go [[(p5, HO.lst ws6)]] amb []
          exact (ctl_rt (run_ret hw)) _ _ _ (es9.trans es27) z d28
      · refine y_nxS ?_
        exact ctl_nx (run_ret hw) _ _ _ (Same.refl _) ⟨_, _, _, _, _, _, _, rfl, z⟩
    intro s σ H Ho e hI hw
    obtain ⟨y_sign_, y_joined_, y_left_, y_mark_, y_right_, y_one_, y_other_, rfl, z⟩ := hI
    have es29 := es4.trans e
    replace z : Zs amb _ _ := z.go [[(p5, HO.lst ws6)]] amb []
    refine y_ret ?_
    refine y_call ?_
    refine y_cons ?_
    refine y_var rfl ?_
    refine y_nil ?_
    refine ⟨amb, _, _, _, rfl, z, (Dq.str _), ?_⟩
    refine run_mono3 hw (fun t30 hw v H Ho e z d31 => ?_)
    have es33 := es29.trans e
    exact (run_ret hw) _ _ _ es33 z d31
def sp_unless_of (K : PySem.W.Frag) (cl : Nat → Addr) : Sp := fun vs H Q E => ∃ (amb : Grp) (Ho : Hp) (v0 : V) (x0 : (List Str)), vs = [v0] ∧ Zs amb H Ho ∧ LV K amb Ho v0 x0 ∧ (m_unless_of x0).run fun r => ∀ v H' Ho', Same Ho Ho' → Zs amb H' Ho' → Z.D K Ho' v r → Q v H'
abbrev s_unless_of : Stmt := topS 19
theorem sc_unless_of : FnScope ["words", "one", "other", "to"] ["words"] (defScope s_unless_of) := ⟨rfl, rfl, rfl, by decide +kernel, rfl, by decide +kernel, by decide +kernel⟩
theorem ok_unless_of {f : Addr} {fd : FuncData} (F : Fun K "unless_of" "unless_of" s_unless_of f fd) {f_worth_of : Addr} {fd_worth_of : FuncData} (c_worth_of : Cal P w K mg base CX0 "worth_of" ["word"] 3 (sp_worth_of K cl) f_worth_of fd_worth_of) {f_number_of : Addr} {fd_number_of : FuncData} (c_number_of : Cal P w K mg base CX0 "number_of" ["word"] 1 (sp_number_of K cl) f_number_of fd_number_of) (m_len : mg "len" = none) :
    FnOk P w K mg base CX0 4 f fd ["words"] (sp_unless_of K cl) := by
  refine F.ok sc_unless_of (fun vs H Q E h => ?_) (fun cdv A outer s H vs Q E hr h => ?_)
  · obtain ⟨amb, Ho, v_words_, words_, rfl, _⟩ := h
    rfl
  · obtain ⟨amb, Ho, v_words_, words_, rfl, z, d_words_, hw⟩ := h
    refine ⟨_, pss_cons (ps_if (PW.pt (pw_or (pt_cmpR (op_ne) (pe_callB (zlen (K := K) rfl) (by rfl) m_len (by decide +kernel) (pa_cons (pv 0) (pa_nil))) (pe_int) (nomark _)) (pw_or (pt_cmpR ((zop_notInT (K := K) rfl)) (pe_ix (zix_list (K := K) rfl) (pv 0) (pe_int) (fun _ _ => rfl)) (pe_tup (pa_cons (pe_str) (pa_cons (pe_str) (pa_nil)))) rfl) (pw_or1 (pt_cmpR (op_ne) (pe_ix (zix_list (K := K) rfl) (pv 0) (pe_int) (fun _ _ => rfl)) (pe_str) (nomark _)))))) (pss_cons (ps_ret (pe_non)) (pss_nil)) (pss_nil)) (pss_cons (ps_set (i := 1) sc_unless_of.nd rfl (Or.inl rfl) (pe_call c_worth_of.ok (hr.mono (by decide)) (by rfl) c_worth_of.g c_worth_of.kp c_worth_of.b .nil pass0 (pa_cons (pe_ix (zix_list (K := K) rfl) (pv 0) (pe_int) (fun _ _ => rfl)) (pa_nil)))) (pss_cons (ps_set (i := 2) sc_unless_of.nd rfl (Or.inl rfl) (pe_call c_worth_of.ok (hr.mono (by decide)) (by rfl) c_worth_of.g c_worth_of.kp c_worth_of.b .nil pass0 (pa_cons (pe_ix (zix_list (K := K) rfl) (pv 0) (pe_int) (fun _ _ => rfl)) (pa_nil)))) (pss_cons (ps_set (i := 3) sc_unless_of.nd rfl (Or.inl rfl) (pe_call c_number_of.ok (hr.mono (by decide)) (by rfl) c_number_of.g c_number_of.kp c_number_of.b .nil pass0 (pa_cons (pe_ix (zix_list (K := K) rfl) (pv 0) (pe_int) (fun _ _ => rfl)) (pa_nil)))) (pss_cons (ps_if (PW.pt (pw_or (pt_cmpR (op_isN) (pv 1) (pe_non) (nomark _)) (pw_or (pt_cmpR (op_isN) (pv 2) (pe_non) (nomark _)) (pw_or1 (pt_cmpR (op_isN) (pv 3) (pe_non) (nomark _)))))) (pss_cons (ps_ret (pe_non)) (pss_nil)) (pss_nil)) (pss_cons (ps_ret (pe_tup (pa_cons (pe_str) (pa_cons (pe_ix (zix_list (K := K) rfl) (pv 0) (pe_int) (fun _ _ => rfl)) (pa_cons (pv 1) (pa_cons (pv 2) (pa_cons (pv 3) (pa_nil)))))))) (pss_nil)))))), ?_⟩
    refine y_ifS ?_
    refine y_or ?_
    refine y_test ?_
    refine y_op ?_
    refine y_cb ?_
    refine y_cons ?_
    refine y_var rfl ?_
    refine y_nil ?_
    refine y_len (LV.sub d_words_ mgE) z ?_
    refine y_c ?_
    refine y_nei ?_
    refine ⟨_, rfl, ?_⟩
    refine w_orJ hw (fun (s : Bool) (v : Bool) (H2 : Hp) => ∃ (Ho2 : Hp), Same Ho Ho2 ∧ Zs amb H2 Ho2 ∧ v = s) (fun hb hw => ?_) (fun hb hw => ?_) ?_
    · exact (run_ret hw) _ _ ⟨_, (Same.refl _), z, rfl⟩
    · refine y_or ?_
      refine y_test ?_
      refine y_op ?_
      refine y_op ?_
      refine y_var rfl ?_
      refine y_c ?_
      refine y_ixL (LV.sub d_words_ mgE) z hw (fun t1 w d2 hw => ?_)
      obtain rfl := d_str d2
      refine k_tup ?_
      refine y_cons ?_
      refine y_c ?_
      refine y_cons ?_
      refine y_c ?_
      refine y_nil ?_
      refine k_tupk (K := K) (x := (("=" : Str), ("<" : Str))) z (by show 2 ≤ sizeLine; decide) _ rfl (DqAll.cons (Dq.str _) (DqAll.cons (Dq.str _) DqAll.nil)) (fun p H Ho e z d3 => ?_)
      replace d_words_ := LV.mo d_words_ e
      have es4 := (Same.refl _).trans e
      refine y_notInT (ss := ([(("=" : Str), ("<" : Str)).1, (("=" : Str), ("<" : Str)).2] : List Str)) d3 rfl z ?_
      refine ⟨_, rfl, ?_⟩
      refine w_orJ hw (fun (s : Bool) (v : Bool) (H2 : Hp) => ∃ (Ho2 : Hp), Same Ho Ho2 ∧ Zs amb H2 Ho2 ∧ v = s) (fun hb hw => ?_) (fun hb hw => ?_) ?_
      · exact (run_ret hw) _ _ ⟨_, (Same.refl _), z, rfl⟩
      · refine y_test ?_
        refine y_op ?_
        refine y_op ?_
        refine y_var rfl ?_
        refine y_c ?_
        refine y_ixL (LV.sub d_words_ mgE) z hw (fun t5 w d6 hw => ?_)
        obtain rfl := d_str d6
        refine y_c ?_
        refine y_nes ?_
        refine ⟨_, rfl, ?_⟩
        exact (run_ret hw) _ _ ⟨_, (Same.refl _), z, rfl⟩
      rintro t7 v H ⟨Ho, e, z, rfl⟩ hw
      replace d_words_ := LV.mo d_words_ e
      have es10 := es4.trans e
      exact (run_ret hw) _ _ ⟨_, es10, z, rfl⟩
    rintro t11 v H ⟨Ho, e, z, rfl⟩ hw
    replace d_words_ := LV.mo d_words_ e
    have es14 := (Same.refl _).trans e
    refine y_cases hw (fun hb hw => ?_) (fun hb hw => ?_)
    · refine y_ret ?_
      refine y_c ?_
      exact (run_ret hw) _ _ _ es14 z (show Z.D K Ho _ (toPy ()) from Dq.non)
    · refine y_nxS ?_
      refine l_asg (fun v => [_, some v, _, _]) (fun _ => rfl) ?_
      refine y_call ?_
      refine y_cons ?_
      refine y_op ?_
      refine y_var rfl ?_
      refine y_c ?_
      refine y_ixL (LV.sub d_words_ mgE) z hw (fun t15 w d16 hw => ?_)
      obtain rfl := d_str d16
      refine y_nil ?_
      refine ⟨amb, _, _, _, rfl, z, (Dq.str _), ?_⟩
      refine run_mono3 hw (fun t17 hw v H Ho e z d18 => ?_)
      replace d_words_ := LV.mo d_words_ e
      have es20 := es14.trans e
      refine l_d (K := K) (Ho := Ho) hw d18 (fun one_ v_one_ d_one_ hw => ?_)
      refine l_asg (fun v => [_, _, some v, _]) (fun _ => rfl) ?_
      refine y_call ?_
      refine y_cons ?_
      refine y_op ?_
      refine y_var rfl ?_
      refine y_c ?_
      refine y_ixL (LV.sub d_words_ mgE) z hw (fun t21 w d22 hw => ?_)
      obtain rfl := d_str d22
      refine y_nil ?_
      refine ⟨amb, _, _, _, rfl, z, (Dq.str _), ?_⟩
      refine run_mono3 hw (fun t23 hw v H Ho e z d24 => ?_)
      replace d_one_ := D.mo d_one_ e
      replace d_words_ := LV.mo d_words_ e
      have es26 := es20.trans e
      refine l_d (K := K) (Ho := Ho) hw d24 (fun other_ v_other_ d_other_ hw => ?_)
      refine l_asg (fun v => [_, _, _, some v]) (fun _ => rfl) ?_
      refine y_call ?_
      refine y_cons ?_
      refine y_op ?_
      refine y_var rfl ?_
      refine y_c ?_
      refine y_ixL (LV.sub d_words_ mgE) z hw (fun t27 w d28 hw => ?_)
      obtain rfl := d_str d28
      refine y_nil ?_
      refine ⟨amb, _, _, _, rfl, z, (Dq.str _), ?_⟩
      refine run_mono3 hw (fun t29 hw v H Ho e z d30 => ?_)
      replace d_one_ := D.mo d_one_ e
      replace d_other_ := D.mo d_other_ e
      replace d_words_ := LV.mo d_words_ e
      have es32 := es26.trans e
      refine l_d (K := K) (Ho := Ho) hw d30 (fun to_ v_to_ d_to_ hw => ?_)
      refine y_ifS ?_
      refine y_or ?_
      refine y_test ?_
      refine y_op ?_
      refine y_var rfl ?_
      refine y_c ?_
      refine ⟨rfl, ?_⟩
      rw [dec_nonP d_one_]
      refine ⟨_, rfl, ?_⟩
      refine w_orJ hw (fun (s : Bool) (v : Bool) (H2 : Hp) => ∃ (Ho2 : Hp), Same Ho Ho2 ∧ Zs amb H2 Ho2 ∧ v = s) (fun hb hw => ?_) (fun hb hw => ?_) ?_
      · exact (run_ret hw) _ _ ⟨_, (Same.refl _), z, rfl⟩
      · refine y_or ?_
        refine y_test ?_
        refine y_op ?_
        refine y_var rfl ?_
        refine y_c ?_
        refine ⟨rfl, ?_⟩
        rw [dec_nonP d_other_]
        refine ⟨_, rfl, ?_⟩
        refine w_orJ hw (fun (s : Bool) (v : Bool) (H2 : Hp) => ∃ (Ho2 : Hp), Same Ho Ho2 ∧ Zs amb H2 Ho2 ∧ v = s) (fun hb hw => ?_) (fun hb hw => ?_) ?_
        · exact (run_ret hw) _ _ ⟨_, (Same.refl _), z, rfl⟩
        · refine y_test ?_
          refine y_op ?_
          refine y_var rfl ?_
          refine y_c ?_
          refine ⟨rfl, ?_⟩
          rw [dec_non d_to_ hw.1]
          replace hw := (run_gd hw).2
          refine ⟨_, rfl, ?_⟩
          exact (run_ret hw) _ _ ⟨_, (Same.refl _), z, rfl⟩
        rintro t33 v H ⟨Ho, e, z, rfl⟩ hw
        replace d_one_ := D.mo d_one_ e
        replace d_other_ := D.mo d_other_ e
        replace d_to_ := D.mo d_to_ e
        replace d_words_ := LV.mo d_words_ e
        have es36 := (Same.refl _).trans e
        exact (run_ret hw) _ _ ⟨_, es36, z, rfl⟩
      rintro t37 v H ⟨Ho, e, z, rfl⟩ hw
      replace d_one_ := D.mo d_one_ e
      replace d_other_ := D.mo d_other_ e
      replace d_to_ := D.mo d_to_ e
      replace d_words_ := LV.mo d_words_ e
      have es40 := es32.trans e
      refine y_cases hw (fun hb hw => ?_) (fun hb hw => ?_)
      · refine y_ret ?_
        refine y_c ?_
        exact (run_ret hw) _ _ _ es40 z (show Z.D K Ho _ (toPy ()) from Dq.non)
      · refine y_nxS ?_
        refine y_ret ?_
        refine k_tup ?_
        refine y_cons ?_
        refine y_c ?_
        refine y_cons ?_
        refine y_op ?_
        refine y_var rfl ?_
        refine y_c ?_
        refine y_ixL (LV.sub d_words_ mgE) z hw (fun t41 w d42 hw => ?_)
        obtain rfl := d_str d42
        refine y_cons ?_
        refine y_var rfl ?_
        refine y_cons ?_
        refine y_var rfl ?_
        refine y_cons ?_
        refine y_var rfl ?_
        refine y_nil ?_
        refine k_tupk (K := K) (x := (⟨("unless" : Str), t41, one_, other_, to_⟩ : (P5 Str Str PyData PyData (Option Int)))) z (by show 5 ≤ sizeLine; decide) _ rfl (DqAll.cons (Dq.str _) (DqAll.cons (Dq.str _) (DqAll.cons d_one_ (DqAll.cons d_other_ (DqAll.cons d_to_ DqAll.nil))))) (fun p H Ho e z d43 => ?_)
        replace d_one_ := D.mo d_one_ e
        replace d_other_ := D.mo d_other_ e
        replace d_to_ := D.mo d_to_ e
        replace d_words_ := LV.mo d_words_ e
        have es44 := es40.trans e
        have d45 := (show Z.D K Ho _ (toPy (⟨("unless" : Str), t41, one_, other_, to_⟩ : (P5 Str Str PyData PyData (Option Int)))) from d43)
        exact (run_ret hw) _ _ _ es44 z d45
def sp_row_of (K : PySem.W.Frag) (cl : Nat → Addr) : Sp := fun vs H Q E => ∃ (amb : Grp) (Ho : Hp) (v0 : V) (x0 : (List Str)), vs = [v0] ∧ Zs amb H Ho ∧ LV K amb Ho v0 x0 ∧ (m_row_of x0).run fun r => ∀ v H' Ho', Same Ho Ho' → Zs amb H' Ho' → Z.D K Ho' v r → Q v H'
abbrev s_row_of : Stmt := topS 20
theorem sc_row_of : FnScope ["words", "kinds", "parts", "kind", "word", "reader"] ["words"] (defScope s_row_of) := ⟨rfl, rfl, rfl, by decide +kernel, rfl, by decide +kernel, by decide +kernel⟩
theorem ok_row_of {f : Addr} {fd : FuncData} (F : Fun K "row_of" "row_of" s_row_of f fd) {q_FORMS q_READERS : Addr} {f_unless_of : Addr} {fd_unless_of : FuncData} (c_unless_of : Cal P w K mg base CX0 "unless_of" ["words"] 4 (sp_unless_of K cl) f_unless_of fd_unless_of) {f_box_of : Addr} {fd_box_of : FuncData} (c_box_of : Cal P w K mg base CX0 "box_of" ["word"] 1 (sp_box_of K cl) f_box_of fd_box_of) {f_number_of : Addr} {fd_number_of : FuncData} (c_number_of : Cal P w K mg base CX0 "number_of" ["word"] 1 (sp_number_of K cl) f_number_of fd_number_of) {f_worth_of : Addr} {fd_worth_of : FuncData} (c_worth_of : Cal P w K mg base CX0 "worth_of" ["word"] 3 (sp_worth_of K cl) f_worth_of fd_worth_of) (m_len : mg "len" = none) (m_zip : mg "zip" = none) (m_tuple : mg "tuple" = none) (m_KeyError : mg "KeyError" = none) (gd_FORMS : mg "FORMS" = some (.ref q_FORMS)) (kd_FORMS : DctK K w q_FORMS (dctS dct_FORMS)) (gd_READERS : mg "READERS" = some (.ref q_READERS)) (kf_READERS : DctK K w q_READERS (dctF rdr_READERS [f_box_of, f_number_of, f_worth_of])) :
    FnOk P w K mg base CX0 5 f fd ["words"] (sp_row_of K cl) := by
  refine F.ok sc_row_of (fun vs H Q E h => ?_) (fun cdv A outer s H vs Q E hr h => ?_)
  · obtain ⟨amb, Ho, v_words_, words_, rfl, _⟩ := h
    rfl
  · obtain ⟨amb, Ho, v_words_, words_, rfl, z, d_words_, hw⟩ := h
    refine ⟨_, pss_cons (ps_if (pt_cmpR (op_eq) (pe_ix (zix_list (K := K) rfl) (pv 0) (pe_int) (fun _ _ => rfl)) (pe_str) (nomark _)) (pss_cons (ps_ret (pe_call c_unless_of.ok (hr.mono (by decide)) (by rfl) c_unless_of.g c_unless_of.kp c_unless_of.b .nil pass0 (pa_cons (pv 0) (pa_nil)))) (pss_nil)) (pss_nil)) (pss_cons (zps_try_only (K := K) rfl rfl rfl ⟨rfl, by decide, .inr ⟨m_KeyError, boot_KE, by decide⟩⟩ takes0 (fun W7 pn7 xe7 tk7 xp7 => pss_cons (ps_set (i := 1) sc_row_of.nd rfl (Or.inl rfl) (zpe_ixDX (K := K) (w := w) rfl rfl rfl tk7 (pe_glob (v := .ref q_FORMS) rfl gd_FORMS rfl) (pe_ix (zix_list (K := K) rfl) (pv 0) (pe_int) (fun _ _ => rfl)) (fun _ _ => rfl))) (pss_nil)) (fun ta7 oe7 cls7 d7 pn7 hz7 hf7 => pss_cons (ps_ret (pe_non)) (pss_nil))) (pss_cons (ps_if (pt_cmpR (op_ne) (pe_callB (zlen (K := K) rfl) (by rfl) m_len (by decide +kernel) (pa_cons (pv 0) (pa_nil))) (pe_op op_add (pe_int) (pe_callB zlenS (by rfl) m_len (by decide +kernel) (pa_cons (pv 1) (pa_nil)))) (nomark _)) (pss_cons (ps_ret (pe_non)) (pss_nil)) (pss_nil)) (pss_cons (ps_set (i := 2) sc_row_of.nd rfl (Or.inl rfl) (pe_lst (pa_nil))) (pss_cons (ps_for PassesOwn.never rfl (zpi_zipX (K := K) rfl (by rfl) m_zip (pa_cons (pv 1) (pa_cons (pe_slice (zsl_list (K := K) rfl) (pv 0) (po_some (pe_int)) po_none) (pa_nil)))) (zpg_tup (K := K) (n := 2) rfl rfl (pgs_cons (pg_name (i := 3) sc_row_of.nd rfl (Or.inl rfl)) (pgs_cons (pg_name (i := 4) sc_row_of.nd rfl (Or.inl rfl)) (pgs_nil)))) (pss_cons (ps_set (i := 5) sc_row_of.nd rfl (Or.inl rfl) (pe_ix (zix_kd (K := K) (w := w) rfl rfl) (pe_glob (v := .ref q_READERS) rfl gd_READERS rfl) (pv 3) (fun _ _ => rfl))) (pss_cons (ps_expr (pe_bm PySem.F.plainAttrs_list PySem.F.slot_list_append PySem.F.type_list_append mt_append (pv 2) (pa_cons (pe_cv3 (j := 4) rfl rfl rfl rfl rfl c_box_of c_number_of c_worth_of hr (by decide) (by decide) (by decide) (i := 5) rfl (Or.inl rfl) (pa_cons (pv 4) (pa_nil))) (pa_nil)))) (pss_nil)))) (pss_cons (ps_if (pt_cmpR (zop_inD (K := K) rfl (room65 hr)) (pe_non) (pv 2) rfl) (pss_cons (ps_ret (pe_non)) (pss_nil)) (pss_nil)) (pss_cons (ps_ret (pe_op (zop_catA (K := K) rfl) (pe_tup (pa_cons (pe_ix (zix_list (K := K) rfl) (pv 0) (pe_int) (fun _ _ => rfl)) (pa_nil))) (pe_callTy (ztupL (K := K) rfl) (by rfl) m_tuple (by decide +kernel) (pa_cons (pv 2) (pa_nil))))) (pss_nil))))))), ?_⟩
    refine y_ifS ?_
    refine y_test ?_
    refine y_op ?_
    refine y_op ?_
    refine y_var rfl ?_
    refine y_c ?_
    refine y_ixL (LV.sub d_words_ mgE) z hw (fun t1 w d2 hw => ?_)
    obtain rfl := d_str d2
    refine y_c ?_
    refine y_eqs ?_
    refine ⟨_, rfl, ?_⟩
    refine y_cases hw (fun hb hw => ?_) (fun hb hw => ?_)
    · refine y_ret ?_
      refine y_call ?_
      refine y_cons ?_
      refine y_var rfl ?_
      refine y_nil ?_
      refine ⟨amb, _, _, _, rfl, z, (LV.sub d_words_ mgE), ?_⟩
      refine run_mono3 hw (fun t3 hw v H Ho e z d4 => ?_)
      replace d_words_ := LV.mo d_words_ e
      have es6 := (Same.refl _).trans e
      exact (run_ret hw) _ _ _ es6 z d4
    · refine y_nxS ?_
      refine y_tryKD ?_
      refine l_asg (fun v => [_, some v, _, _, _, _]) (fun _ => rfl) ?_
      refine y_ixDX ?_
      refine y_c ?_
      refine y_op ?_
      refine y_var rfl ?_
      refine y_c ?_
      refine y_ixL (LV.sub d_words_ mgE) z hw (fun t8 w d9 hw => ?_)
      obtain rfl := d_str d9
      refine y_kdX kd_FORMS hw (fun t10 hw => ?_) (fun hw dd7 aa7 _ => ?_)
      · refine l_s hw (fun kinds_ hw => ?_)
        refine y_nxS ?_
        refine y_ifS ?_
        refine y_test ?_
        refine y_op ?_
        refine y_cb ?_
        refine y_cons ?_
        refine y_var rfl ?_
        refine y_nil ?_
        refine y_len (LV.sub d_words_ mgE) z ?_
        refine y_op ?_
        refine y_c ?_
        refine y_cb ?_
        refine y_cons ?_
        refine y_var rfl ?_
        refine y_nil ?_
        refine y_lenStr hw.1 ?_
        replace hw := (run_gd hw).2
        refine y_i0 ?_
        refine y_nei ?_
        refine ⟨_, rfl, ?_⟩
        refine y_cases hw (fun hb hw => ?_) (fun hb hw => ?_)
        · refine y_ret ?_
          refine y_c ?_
          exact (run_ret hw) _ _ _ (Same.refl _) z (show Z.D K Ho _ (toPy ()) from Dq.non)
        · refine y_nxS ?_
          refine l_asg (fun v => [_, _, some v, _, _, _]) (fun _ => rfl) ?_
          refine k_lst ?_
          refine y_nil ?_
          refine k_lstk (K := K) (xs := ([] : (List PyData))) z DqAll.nil (by show 0 ≤ sizeLine; decide) (fun H p11 ws12 z d13 => ?_)
          replace z : Zs ([(p11, HO.lst ws12)] ++ amb) H Ho := z
          have o14 := OL.mk (p := p11) d13
          refine l_o hw z o14 (fun parts_ v_parts_ g_parts_ z d_parts_ hw => ?_)
          refine y_for ?_
          refine k_iZipX ?_
          refine y_cons ?_
          refine y_var rfl ?_
          refine y_cons ?_
          refine y_sl ?_
          refine y_var rfl ?_
          refine y_part ?_
          refine y_c ?_
          refine ⟨_, rfl, ?_⟩
          refine y_noPart ?_
          refine y_slL (LV.sub d_words_ (mgS mgE)) z (fun H p15 ws16 z d17 => ?_)
          replace z : Zs ([(p15, HO.lst ws16)] ++ (g_parts_ ++ amb)) H Ho := z
          have o18 := OL.mk (p := p15) d17
          refine y_nil ?_
          refine k_srcZXl (K := K) (Ho := Ho) (r0 := [(p15, HO.lst ws16)]) (OL.lv o18 mgE) mg0 z hw.1 (fun J T => ?_)
          replace hw := (run_gd hw).2
          refine y_forL T hw (fun (s : (List PyData)) (σ : L2.St) (H Ho : Hp) => ∃ (g_parts_ : Grp) (y_kind_ : Option V) (y_word_ : Option V) (y_reader_ : Option V), σ = [some v_words_, some (V.str kinds_), some v_parts_, y_kind_, y_word_, y_reader_] ∧ Zs ([(p15, HO.lst ws16)] ++ (g_parts_ ++ amb)) H Ho ∧ OL K Ho v_parts_ s g_parts_) ⟨_, _, _, _, rfl, z, d_parts_⟩ ?_ ?_ ?_ ?_
          · intro s σ H Ho hI
            obtain ⟨g_parts_, y_kind_, y_word_, y_reader_, rfl, z, d_parts_⟩ := hI
            exact ⟨_, z, mg0⟩
          · intro s σ H Ho H2 Ho2 hI e t
            obtain ⟨g_parts_, y_kind_, y_word_, y_reader_, rfl, z, d_parts_⟩ := hI
            exact ⟨_, _, _, _, rfl, t _ z, OL.mo d_parts_ e⟩
          · intro a x s σ H Ho N e hI dx hw
            obtain ⟨parts_, rfl⟩ : ∃ q, q = s := ⟨_, rfl⟩
            obtain ⟨g_parts_, y_kind_, y_word_, y_reader_, rfl, z, d_parts_⟩ := hI
            replace d_words_ := LV.mo d_words_ e
            have es19 := (Same.refl _).trans e
            obtain ⟨kind_, word_⟩ := a
            refine c_gt2 (fun v_kind_ v_word_ => [some v_words_, some (V.str kinds_), some v_parts_, some v_kind_, some v_word_, y_reader_]) (fun _ _ => rfl) dx z (fun v_kind_ v_word_ d_kind_ d_word_ => ?_)
            obtain rfl := d_str d_kind_
            obtain rfl := d_str d_word_
            refine l_asg (fun v => [_, _, _, _, _, some v]) (fun _ => rfl) ?_
            refine y_op ?_
            refine y_c ?_
            refine y_var rfl ?_
            refine y_kdF kf_READERS rfl hw (fun t20 u21 d22 hw => ?_)
            refine l_any2 ?_
            refine h_nmG (P := fun i => FnV [f_box_of, f_number_of, f_worth_of] i u21) hw d22 (fun reader_ d_reader_ hw => ?_)
            refine y_drop ?_
            refine y_bm ?_
            refine y_var rfl ?_
            refine g_tyL (OL.lv d_parts_ (mgS mg0)) z ?_
            refine y_cons ?_
            refine y_cv3 d_reader_ rfl ?_
            refine y_cons ?_
            refine y_var rfl ?_
            refine y_nil ?_
            refine y_cv3k d_reader_ (fun h => h) (fun h => h) (fun h => h) z (Dq.str _) hw (fun y23 v H Ho e z d24 hw => ?_)
            replace d_parts_ := OL.mo d_parts_ e
            replace d_words_ := LV.mo d_words_ e
            have es25 := (Same.refl _).trans e
            refine y_nil ?_
            replace z : Zs (g_parts_ ++ ([(p15, HO.lst ws16)] ++ amb)) _ _ := z.go [[(p15, HO.lst ws16)], g_parts_] amb [1, 0]
            refine g_app z d_parts_ d24 hw (fun parts_ g_parts_ H z d_parts_ hw => ?_)
            replace z : Zs ([(p15, HO.lst ws16)] ++ (g_parts_ ++ amb)) _ _ := z.go [g_parts_, [(p15, HO.lst ws16)]] amb [1, 0]
            exact (run_ret hw) _ _ _ es25 ⟨_, _, _, _, rfl, z, d_parts_⟩
          intro s σ H Ho e hI hw
          obtain ⟨parts_, rfl⟩ : ∃ q, q = s := ⟨_, rfl⟩
          obtain ⟨g_parts_, y_kind_, y_word_, y_reader_, rfl, z, d_parts_⟩ := hI
          replace d_words_ := LV.mo d_words_ e
          have es26 := (Same.refl _).trans e
          replace z : Zs (g_parts_ ++ amb) _ _ := z.go [[(p15, HO.lst ws16)], g_parts_] amb [1]
          refine y_ifS ?_
          refine y_test ?_
          refine y_op ?_
          refine y_c ?_
          refine y_var rfl ?_
          refine y_inD Dq.non (LV.dp (OL.lv d_parts_ mg0) z) hw.1 ?_
          replace hw := (run_gd hw).2
          refine ⟨_, rfl, ?_⟩
          refine y_cases hw (fun hb hw => ?_) (fun hb hw => ?_)
          · refine y_ret ?_
            refine y_c ?_
            replace z : Zs amb _ _ := z.go [g_parts_] amb []
            exact (run_ret hw) _ _ _ es26 z (show Z.D K Ho _ (toPy ()) from Dq.non)
          · refine y_nxS ?_
            refine y_ret ?_
            refine y_op ?_
            refine k_tup ?_
            refine y_cons ?_
            refine y_op ?_
            refine y_var rfl ?_
            refine y_c ?_
            refine y_ixL (LV.sub d_words_ (mgS mgE)) z hw (fun t27 w d28 hw => ?_)
            obtain rfl := d_str d28
            refine y_nil ?_
            refine k_tupk (K := K) (x := (⟨[t27]⟩ : (Tp Str))) z (by show 1 ≤ sizeLine; decide) _ rfl (DqAll.cons (Dq.str _) DqAll.nil) (fun p H Ho e z d29 => ?_)
            replace d_parts_ := OL.mo d_parts_ e
            replace d_words_ := LV.mo d_words_ e
            have es30 := es26.trans e
            refine y_cb ?_
            refine y_cons ?_
            refine y_var rfl ?_
            refine y_nil ?_
            refine y_tupL (OL.lv d_parts_ mg0) z (fun p H Ho e z d31 => ?_)
            replace d_parts_ := OL.mo d_parts_ e
            replace d_words_ := LV.mo d_words_ e
            replace d29 := D.mo d29 e
            have es32 := es30.trans e
            refine y_catTp (tp_py d29) d31 z hw.1 (fun w H Ho e z d33 => ?_)
            replace hw := (run_gd hw).2
            replace d_parts_ := OL.mo d_parts_ e
            replace d_words_ := LV.mo d_words_ e
            have es34 := es32.trans e
            have d35 := (show Z.D K Ho _ (toPy (⟨(⟨List.map toPy (⟨[t27]⟩ : (Tp Str)).l⟩ : Tp PyData).l ++ (⟨parts_⟩ : (Tp PyData)).l⟩ : (Tp PyData))) from d33)
            replace z : Zs amb _ _ := z.go [g_parts_] amb []
            exact (run_ret hw) _ _ _ es34 z d35
      · refine y_ret ?_
        refine y_c ?_
        exact (run_ret hw) _ _ _ (Same.refl _) z (show Z.D K Ho _ (toPy ()) from Dq.non)
def sp_cell_of (K : PySem.W.Frag) (cl : Nat → Addr) : Sp := fun vs H Q E => ∃ (amb : Grp) (Ho : Hp) (v0 : V) (x0 : PyData), vs = [v0] ∧ Zs amb H Ho ∧ Z.D K Ho v0 x0 ∧ (m_cell_of x0).run fun r => ∀ v H' Ho', Same Ho Ho' → Zs amb H' Ho' → Z.D K Ho' v r → Q v H'
abbrev s_cell_of : Stmt := topS 21
theorem sc_cell_of : FnScope ["row"] ["row"] (defScope s_cell_of) := ⟨rfl, rfl, rfl, by decide +kernel, rfl, by decide +kernel, by decide +kernel⟩
theorem ok_cell_of {f : Addr} {fd : FuncData} (F : Fun K "cell_of" "cell_of" s_cell_of f fd) :
    FnOk P w K mg base CX0 1 f fd ["row"] (sp_cell_of K cl) := by
  refine F.ok sc_cell_of (fun vs H Q E h => ?_) (fun cdv A outer s H vs Q E hr h => ?_)
  · obtain ⟨amb, Ho, v_row_, row_, rfl, _⟩ := h
    rfl
  · obtain ⟨amb, Ho, v_row_, row_, rfl, z, d_row_, hw⟩ := h
    refine ⟨_, pss_cons (ps_if (PW.pt (pw_or (pt_cmpR (zop_eqD (K := K) rfl hr.units) (pe_ix (zix_any (K := K) rfl) (pv 0) (pe_int) (fun _ _ => rfl)) (pe_str) (nomark _)) (pw_or1 (pt_cmpR (zop_eqD (K := K) rfl hr.units) (pe_ix (zix_any (K := K) rfl) (pv 0) (pe_int) (fun _ _ => rfl)) (pe_str) (nomark _))))) (pss_cons (ps_ret (pe_ix (zix_any (K := K) rfl) (pv 0) (pe_int) (fun _ _ => rfl))) (pss_nil)) (pss_nil)) (pss_cons (ps_if (pt_cmpR (zop_eqD (K := K) rfl hr.units) (pe_ix (zix_any (K := K) rfl) (pv 0) (pe_int) (fun _ _ => rfl)) (pe_str) (nomark _)) (pss_cons (ps_ret (pe_ix (zix_any (K := K) rfl) (pv 0) (pe_int) (fun _ _ => rfl))) (pss_nil)) (pss_nil)) (pss_cons (ps_ret (pe_non)) (pss_nil))), ?_⟩
    refine y_ifS ?_
    refine y_or ?_
    refine y_test ?_
    refine y_op ?_
    refine y_op ?_
    refine y_var rfl ?_
    refine y_c ?_
    refine y_ixP d_row_ z hw (fun t1 w d2 hw => ?_)
    refine y_c ?_
    refine y_eqD (D.mo d2 z.le) (Dq.str _) hw.1 ?_
    replace hw := (run_gd hw).2
    refine ⟨_, rfl, ?_⟩
    refine w_orJ hw (fun (s : Bool) (v : Bool) (H2 : Hp) => ∃ (Ho2 : Hp), Same Ho Ho2 ∧ Zs amb H2 Ho2 ∧ v = s) (fun hb hw => ?_) (fun hb hw => ?_) ?_
    · exact (run_ret hw) _ _ ⟨_, (Same.refl _), z, rfl⟩
    · refine y_test ?_
      refine y_op ?_
      refine y_op ?_
      refine y_var rfl ?_
      refine y_c ?_
      refine y_ixP d_row_ z hw (fun t3 w d4 hw => ?_)
      refine y_c ?_
      refine y_eqD (D.mo d4 z.le) (Dq.str _) hw.1 ?_
      replace hw := (run_gd hw).2
      refine ⟨_, rfl, ?_⟩
      exact (run_ret hw) _ _ ⟨_, (Same.refl _), z, rfl⟩
    rintro t5 v H ⟨Ho, e, z, rfl⟩ hw
    replace d_row_ := D.mo d_row_ e
    have es8 := (Same.refl _).trans e
    refine y_cases hw (fun hb hw => ?_) (fun hb hw => ?_)
    · refine y_ret ?_
      refine y_op ?_
      refine y_var rfl ?_
      refine y_c ?_
      refine y_ixP d_row_ z hw (fun t9 w d10 hw => ?_)
      exact (run_ret hw) _ _ _ es8 z d10
    · refine y_nxS ?_
      refine y_ifS ?_
      refine y_test ?_
      refine y_op ?_
      refine y_op ?_
      refine y_var rfl ?_
      refine y_c ?_
      refine y_ixP d_row_ z hw (fun t11 w d12 hw => ?_)
      refine y_c ?_
      refine y_eqD (D.mo d12 z.le) (Dq.str _) hw.1 ?_
      replace hw := (run_gd hw).2
      refine ⟨_, rfl, ?_⟩
      refine y_cases hw (fun hb hw => ?_) (fun hb hw => ?_)
      · refine y_ret ?_
        refine y_op ?_
        refine y_var rfl ?_
        refine y_c ?_
        refine y_ixP d_row_ z hw (fun t13 w d14 hw => ?_)
        exact (run_ret hw) _ _ _ es8 z d14
      · refine y_nxS ?_
        refine y_ret ?_
        refine y_c ?_
        exact (run_ret hw) _ _ _ es8 z (show Z.D K Ho _ (toPy ()) from Dq.non)
def sp_cells_of (K : PySem.W.Frag) (cl : Nat → Addr) : Sp := fun vs H Q E => ∃ (amb : Grp) (Ho : Hp) (v0 : V) (x0 : Str), vs = [v0] ∧ Zs amb H Ho ∧ Z.D K Ho v0 x0 ∧ (m_cells_of x0).run fun r => ∀ v H' Ho', Same Ho Ho' → Zs amb H' Ho' → Z.D K Ho' v r → Q v H'
abbrev s_cells_of : Stmt := topS 22
theorem sc_cells_of : FnScope ["row", "words", "many"] ["row"] (defScope s_cells_of) := ⟨rfl, rfl, rfl, by decide +kernel, rfl, by decide +kernel, by decide +kernel⟩
theorem ok_cells_of {f : Addr} {fd : FuncData} (F : Fun K "cells_of" "cells_of" s_cells_of f fd) {f_number_of : Addr} {fd_number_of : FuncData} (c_number_of : Cal P w K mg base CX0 "number_of" ["word"] 1 (sp_number_of K cl) f_number_of fd_number_of) (m_len : mg "len" = none) {tk_MOST_CELLS : Tok} (g_MOST_CELLS : mg "MOST_CELLS" = some (.int 20 tk_MOST_CELLS)) :
    FnOk P w K mg base CX0 2 f fd ["row"] (sp_cells_of K cl) := by
  refine F.ok sc_cells_of (fun vs H Q E h => ?_) (fun cdv A outer s H vs Q E hr h => ?_)
  · obtain ⟨amb, Ho, v_row_, row_, rfl, _⟩ := h
    rfl
  · obtain ⟨amb, Ho, v_row_, row_, rfl, z, d_row_, hw⟩ := h
    refine ⟨_, pss_cons (ps_set (i := 1) sc_cells_of.nd rfl (Or.inl rfl) (pe_m1 PySem.F.slot_str_split PySem.F.type_str_split zmt_split (pv 0) (pe_str))) (pss_cons (ps_if (PW.pt (pw_or (pt_cmpR (op_ne) (pe_callB (zlen (K := K) rfl) (by rfl) m_len (by decide +kernel) (pa_cons (pv 1) (pa_nil))) (pe_int) (nomark _)) (pw_or (pt_cmpR (op_ne) (pe_ix (zix_list (K := K) rfl) (pv 1) (pe_int) (fun _ _ => rfl)) (pe_str) (nomark _)) (pw_or1 (pt_cmpR (op_isN) (pe_call c_number_of.ok (hr.mono (by decide)) (by rfl) c_number_of.g c_number_of.kp c_number_of.b .nil pass0 (pa_cons (pe_ix (zix_list (K := K) rfl) (pv 1) (pe_int) (fun _ _ => rfl)) (pa_nil))) (pe_non) (nomark _)))))) (pss_cons (ps_never) (pss_nil)) (pss_nil)) (pss_cons (ps_set (i := 2) sc_cells_of.nd rfl (Or.inl rfl) (pe_call c_number_of.ok (hr.mono (by decide)) (by rfl) c_number_of.g c_number_of.kp c_number_of.b .nil pass0 (pa_cons (pe_ix (zix_list (K := K) rfl) (pv 1) (pe_int) (fun _ _ => rfl)) (pa_nil)))) (pss_cons (ps_if (PW.pt (pw_or (pt_cmpR (op_lt) (pv 2) (pe_int) (nomark _)) (pw_or1 (pt_cmpR (op_gt) (pv 2) (pe_glob (v := .int 20) rfl g_MOST_CELLS ⟨_, rfl⟩) (nomark _))))) (pss_cons (ps_never) (pss_nil)) (pss_nil)) (pss_cons (ps_ret (pv 2)) (pss_nil))))), ?_⟩
    obtain rfl := d_str d_row_
    refine l_asg (fun v => [_, some v, _]) (fun _ => rfl) ?_
    refine y_tm1 ?_
    refine y_var rfl ?_
    refine y_tm1s ?_
    refine y_c ?_
    refine y_split (K := K) z hw.1 (fun H p1 ws2 z d3 => ?_)
    replace hw := (run_gd hw).2
    replace z : Zs ([(p1, HO.lst ws2)] ++ amb) H Ho := z
    have o4 := OL.mk (p := p1) d3
    refine l_fr o4 z (fun Ho e z d5 => ?_)
    have es6 := (Same.refl _).trans e
    refine l_d (K := K) (Ho := Ho) hw d5 (fun words_ v_words_ d_words_ hw => ?_)
    refine y_ifS ?_
    refine y_or ?_
    refine y_test ?_
    refine y_op ?_
    refine y_cb ?_
    refine y_cons ?_
    refine y_var rfl ?_
    refine y_nil ?_
    refine y_len (LV.of d_words_) z ?_
    refine y_c ?_
    refine y_nei ?_
    refine ⟨_, rfl, ?_⟩
    refine w_orJ hw (fun (s : Bool) (v : Bool) (H2 : Hp) => ∃ (Ho2 : Hp), Same Ho Ho2 ∧ Zs amb H2 Ho2 ∧ v = s) (fun hb hw => ?_) (fun hb hw => ?_) ?_
    · exact (run_ret hw) _ _ ⟨_, (Same.refl _), z, rfl⟩
    · refine y_or ?_
      refine y_test ?_
      refine y_op ?_
      refine y_op ?_
      refine y_var rfl ?_
      refine y_c ?_
      refine y_ixL (LV.of d_words_) z hw (fun t7 w d8 hw => ?_)
      obtain rfl := d_str d8
      refine y_c ?_
      refine y_nes ?_
      refine ⟨_, rfl, ?_⟩
      refine w_orJ hw (fun (s : Bool) (v : Bool) (H2 : Hp) => ∃ (Ho2 : Hp), Same Ho Ho2 ∧ Zs amb H2 Ho2 ∧ v = s) (fun hb hw => ?_) (fun hb hw => ?_) ?_
      · exact (run_ret hw) _ _ ⟨_, (Same.refl _), z, rfl⟩
      · refine y_test ?_
        refine y_op ?_
        refine y_call ?_
        refine y_cons ?_
        refine y_op ?_
        refine y_var rfl ?_
        refine y_c ?_
        refine y_ixL (LV.of d_words_) z hw (fun t9 w d10 hw => ?_)
        obtain rfl := d_str d10
        refine y_nil ?_
        refine ⟨amb, _, _, _, rfl, z, (Dq.str _), ?_⟩
        refine run_mono3 hw (fun t11 hw v H Ho e z d12 => ?_)
        replace d_words_ := D.mo d_words_ e
        have es14 := (Same.refl _).trans e
        refine y_c ?_
        refine ⟨rfl, ?_⟩
        rw [dec_non d12 hw.1]
        replace hw := (run_gd hw).2
        refine ⟨_, rfl, ?_⟩
        exact (run_ret hw) _ _ ⟨_, es14, z, rfl⟩
      rintro t15 v H ⟨Ho, e, z, rfl⟩ hw
      replace d_words_ := D.mo d_words_ e
      have es18 := (Same.refl _).trans e
      exact (run_ret hw) _ _ ⟨_, es18, z, rfl⟩
    rintro t19 v H ⟨Ho, e, z, rfl⟩ hw
    replace d_words_ := D.mo d_words_ e
    have es22 := es6.trans e
    refine y_cases hw (fun hb hw => ?_) (fun hb hw => ?_)
    · exact hw.elim
    · refine y_nxS ?_
      refine l_asg (fun v => [_, _, some v]) (fun _ => rfl) ?_
      refine y_call ?_
      refine y_cons ?_
      refine y_op ?_
      refine y_var rfl ?_
      refine y_c ?_
      refine y_ixL (LV.of d_words_) z hw (fun t23 w d24 hw => ?_)
      obtain rfl := d_str d24
      refine y_nil ?_
      refine ⟨amb, _, _, _, rfl, z, (Dq.str _), ?_⟩
      refine run_mono3 hw (fun t25 hw v H Ho e z d26 => ?_)
      replace d_words_ := D.mo d_words_ e
      have es28 := es22.trans e
      refine l_d (K := K) (Ho := Ho) hw d26 (fun many_ v_many_ d_many_ hw => ?_)
      refine y_ifS ?_
      refine y_or ?_
      refine y_test ?_
      refine y_op ?_
      refine y_var rfl ?_
      refine y_get d_many_ hw (fun t29 d30 hw => ?_)
      obtain rfl := d_int d30
      refine y_c ?_
      refine y_i0 ?_
      refine ⟨_, rfl, ?_⟩
      refine w_orJ hw (fun (s : Bool) (v : Bool) (H2 : Hp) => ∃ (Ho2 : Hp), Same Ho Ho2 ∧ Zs amb H2 Ho2 ∧ v = s) (fun hb hw => ?_) (fun hb hw => ?_) ?_
      · exact (run_ret hw) _ _ ⟨_, (Same.refl _), z, rfl⟩
      · refine y_test ?_
        refine y_op ?_
        refine y_var rfl ?_
        refine y_c ?_
        refine y_i0 ?_
        refine ⟨_, rfl, ?_⟩
        exact (run_ret hw) _ _ ⟨_, (Same.refl _), z, rfl⟩
      rintro t31 v H ⟨Ho, e, z, rfl⟩ hw
      replace d_many_ := D.mo d_many_ e
      have es34 := es28.trans e
      refine y_cases hw (fun hb hw => ?_) (fun hb hw => ?_)
      · exact hw.elim
      · refine y_nxS ?_
        refine y_ret ?_
        refine y_var rfl ?_
        exact (run_ret hw) _ _ _ es34 z (Dq.int _)
def sp_take_row (K : PySem.W.Frag) (cl : Nat → Addr) : Sp := fun vs H Q E => ∃ (amb : Grp) (Ho : Hp) (v0 : V) (x0 : (List (List PyData))) (g0 : Grp) (v1 : V) (x1 : (List Str)) (v2 : V) (x2 : Int) (v3 : V) (x3 : Int), vs = [v0, v1, v2, v3] ∧ Zs (g0 ++ amb) H Ho ∧ OLo OL K Ho v0 x0 g0 ∧ LV K amb Ho v1 x1 ∧ Z.D K Ho v2 x2 ∧ Z.D K Ho v3 x3 ∧ (m_take_row x0 x1 x2 x3).run fun r => ∀ v h0 H' Ho', Same Ho Ho' → Zs (h0 ++ amb) H' Ho' → Z.D K Ho' v r.1 → OLo OL K Ho' v0 r.2 h0 → Q v H'
abbrev s_take_row : Stmt := topS 23
theorem sc_take_row : FnScope ["hands", "words", "many", "at", "made", "cell"] ["hands", "words", "many", "at"] (defScope s_take_row) := ⟨rfl, rfl, rfl, by decide +kernel, rfl, by decide +kernel, by decide +kernel⟩
theorem ok_take_row {f : Addr} {fd : FuncData} (F : Fun K "take_row" "take_row" s_take_row f fd) {f_row_of : Addr} {fd_row_of : FuncData} (c_row_of : Cal P w K mg base CX0 "row_of" ["words"] 5 (sp_row_of K cl) f_row_of fd_row_of) {f_cell_of : Addr} {fd_cell_of : FuncData} (c_cell_of : Cal P w K mg base CX0 "cell_of" ["row"] 1 (sp_cell_of K cl) f_cell_of fd_cell_of) (m_len : mg "len" = none) {tk_MOST_ROWS : Tok} (g_MOST_ROWS : mg "MOST_ROWS" = some (.int 60 tk_MOST_ROWS)) :
    FnOk P w K mg base CX0 6 f fd ["hands", "words", "many", "at"] (sp_take_row K cl) := by
  refine F.ok sc_take_row (fun vs H Q E h => ?_) (fun cdv A outer s H vs Q E hr h => ?_)
  · obtain ⟨amb, Ho, v_hands_, hands_, g_hands_, v_words_, words_, v_many_, many_, v_at_, at_, rfl, _⟩ := h
    rfl
  · obtain ⟨amb, Ho, v_hands_, hands_, g_hands_, v_words_, words_, v_many_, many_, v_at_, at_, rfl, z, d_hands_, d_words_, d_many_, d_at_, hw⟩ := h
    refine ⟨_, pss_cons (ps_set (i := 4) sc_take_row.nd rfl (Or.inl rfl) (pe_call c_row_of.ok (hr.mono (by decide)) (by rfl) c_row_of.g c_row_of.kp c_row_of.b .nil pass0 (pa_cons (pv 1) (pa_nil)))) (pss_cons (ps_if (PW.pt (pw_or (pt_cmpR (op_isN) (pv 4) (pe_non) (nomark _)) (pw_or1 (pt_cmpR (zop_eqD (K := K) rfl hr.units) (pv 0) (pe_lst pa_nil) (nomark _))))) (pss_cons (ps_never) (pss_nil)) (pss_nil)) (pss_cons (ps_set (i := 5) sc_take_row.nd rfl (Or.inl rfl) (pe_call c_cell_of.ok (hr.mono (by decide)) (by rfl) c_cell_of.g c_cell_of.kp c_cell_of.b .nil pass0 (pa_cons (pv 4) (pa_nil)))) (pss_cons (ps_if (PW.pt (pw_and (pt_cmpR (op_notN) (pv 5) (pe_non) (nomark _)) (pw_and1 (pt_cmpR (op_ge) (pv 5) (pv 2) (nomark _))))) (pss_cons (ps_never) (pss_nil)) (pss_nil)) (pss_cons (ps_if (pt_cmpR (op_eq) (pe_callB (zlen (K := K) rfl) (by rfl) m_len (by decide +kernel) (pa_cons (pe_ix (zix_list (K := K) rfl) (pv 0) (pe_un un_neg (pe_int)) (fun _ _ => rfl)) (pa_nil))) (pe_glob (v := .int 60) rfl g_MOST_ROWS ⟨_, rfl⟩) (nomark _)) (pss_cons (ps_never) (pss_nil)) (pss_nil)) (pss_cons (ps_expr (pe_bm PySem.F.plainAttrs_list PySem.F.slot_list_append PySem.F.type_list_append mt_append (pe_ix (zix_list (K := K) rfl) (pv 0) (pe_un un_neg (pe_int)) (fun _ _ => rfl)) (pa_cons (pv 4) (pa_nil)))) (pss_nil)))))), ?_⟩
    obtain rfl := d_int d_many_
    obtain rfl := d_int d_at_
    refine l_asg (fun v => [_, _, _, _, some v, _]) (fun _ => rfl) ?_
    refine y_call ?_
    refine y_cons ?_
    refine y_var rfl ?_
    refine y_nil ?_
    refine ⟨(g_hands_ ++ amb), _, _, _, rfl, z, (LV.sub d_words_ (mgS mgE)), ?_⟩
    refine run_mono3 hw (fun t1 hw v H Ho e z d2 => ?_)
    replace d_hands_ := OLo.mo d_hands_ e
    replace d_words_ := LV.mo d_words_ e
    have es4 := (Same.refl _).trans e
    refine l_d (K := K) (Ho := Ho) hw d2 (fun made_ v_made_ d_made_ hw => ?_)
    refine y_ifS ?_
    refine y_or ?_
    refine y_test ?_
    refine y_op ?_
    refine y_var rfl ?_
    refine y_c ?_
    refine ⟨rfl, ?_⟩
    rw [dec_nonP d_made_]
    refine ⟨_, rfl, ?_⟩
    refine w_orJ hw (fun (s : Bool) (v : Bool) (H2 : Hp) => ∃ (Ho2 : Hp), Same Ho Ho2 ∧ Zs (g_hands_ ++ amb) H2 Ho2 ∧ v = s) (fun hb hw => ?_) (fun hb hw => ?_) ?_
    · exact (run_ret hw) _ _ ⟨_, (Same.refl _), z, rfl⟩
    · refine y_test ?_
      refine y_op ?_
      refine y_var rfl ?_
      refine k_lst ?_
      refine y_nil ?_
      refine k_lstR (vs := []) z (by show 0 ≤ sizeLine; decide) (fun p5 H z => ?_)
      have o6 : OLo OL K Ho (.ref p5) ([] : (List (List PyData))) [(p5, HO.lst [])] := o_nil
      refine y_eqD (RdV.rd (RdV.ofO (P := OLo OL) d_hands_ (mgS mg0)) (fun _ h => h) z) (RdV.rd (RdV.ofO (P := OLo OL) o6 mg0) (fun _ h => h) z) hw.1 ?_
      replace hw := (run_gd hw).2
      refine ⟨_, rfl, ?_⟩
      replace z : Zs (g_hands_ ++ amb) _ _ := z.go [[(p5, HO.lst [])], g_hands_] amb [1]
      exact (run_ret hw) _ _ ⟨_, (Same.refl _), z, rfl⟩
    rintro t7 v H ⟨Ho, e, z, rfl⟩ hw
    replace d_hands_ := OLo.mo d_hands_ e
    replace d_made_ := D.mo d_made_ e
    have es10 := es4.trans e
    refine y_cases hw (fun hb hw => ?_) (fun hb hw => ?_)
    · exact hw.elim
    · refine y_nxS ?_
      refine l_asg (fun v => [_, _, _, _, _, some v]) (fun _ => rfl) ?_
      refine y_call ?_
      refine y_cons ?_
      refine y_var rfl ?_
      refine y_nil ?_
      refine ⟨(g_hands_ ++ amb), _, _, _, rfl, z, d_made_, ?_⟩
      refine run_mono3 hw (fun t11 hw v H Ho e z d12 => ?_)
      replace d_hands_ := OLo.mo d_hands_ e
      replace d_made_ := D.mo d_made_ e
      have es14 := es10.trans e
      refine l_d (K := K) (Ho := Ho) hw d12 (fun cell_ v_cell_ d_cell_ hw => ?_)
      refine y_ifS ?_
      refine y_and ?_
      refine y_test ?_
      refine y_op ?_
      refine y_var rfl ?_
      refine y_c ?_
      refine ⟨rfl, ?_⟩
      rw [dec_nonP d_cell_]
      refine ⟨_, rfl, ?_⟩
      refine w_andJ hw (fun (s : Bool) (v : Bool) (H2 : Hp) => ∃ (Ho2 : Hp), Same Ho Ho2 ∧ Zs (g_hands_ ++ amb) H2 Ho2 ∧ v = s) (fun hb hw => ?_) (fun hb hw => ?_) ?_
      · refine y_test ?_
        refine y_op ?_
        refine y_var rfl ?_
        refine y_var rfl ?_
        refine y_fr (β := Int) d_cell_ hw (fun t15 d16 hw => ?_)
        obtain rfl := d_int d16
        refine y_i0 ?_
        refine ⟨_, rfl, ?_⟩
        exact (run_ret hw) _ _ ⟨_, (Same.refl _), z, rfl⟩
      · exact (run_ret hw) _ _ ⟨_, (Same.refl _), z, rfl⟩
      rintro t17 v H ⟨Ho, e, z, rfl⟩ hw
      replace d_hands_ := OLo.mo d_hands_ e
      replace d_made_ := D.mo d_made_ e
      have es20 := es14.trans e
      refine y_cases hw (fun hb hw => ?_) (fun hb hw => ?_)
      · exact hw.elim
      · refine y_nxS ?_
        refine y_ifS ?_
        refine y_test ?_
        refine y_op ?_
        refine y_cb ?_
        refine y_cons ?_
        refine y_op ?_
        refine y_var rfl ?_
        refine y_un ?_
        refine y_c ?_
        refine y_neg ?_
        refine y_ixLo (⟨_, d_hands_, mg0⟩ : BLo OL K (g_hands_ ++ amb) Ho _ _) mgE z hw (fun t21 u22 el23 be24 hw => ?_)
        refine y_nil ?_
        refine y_len (elLv be24 (fun r m => (List.mem_append.mp m).elim (mg0 r) ((mgS mgE) r))) z ?_
        refine y_c ?_
        refine y_eqi ?_
        refine ⟨_, rfl, ?_⟩
        refine y_cases hw (fun hb hw => ?_) (fun hb hw => ?_)
        · exact hw.elim
        · refine y_nxS ?_
          refine y_drop ?_
          refine y_bm ?_
          refine y_op ?_
          refine y_var rfl ?_
          refine y_un ?_
          refine y_c ?_
          refine y_neg ?_
          refine y_ixLo (⟨_, d_hands_, mg0⟩ : BLo OL K (g_hands_ ++ amb) Ho _ _) mgE z hw (fun t25 u26 el27 be28 hw => ?_)
          refine g_tyL (elLv be28 (fun r m => (List.mem_append.mp m).elim (mg0 r) ((mgS mgE) r))) z ?_
          refine y_cons ?_
          refine y_var rfl ?_
          refine y_nil ?_
          refine h_nmG (P := fun i => ElAt _ _ i _) hw el27 (fun el29___ix_ el_el29__ hw => ?_)
          refine o_openE d_hands_ z el_el29__ (fun r m => (List.mem_append.mp m).elim (mg0 r) ((mgS mgE) r)) hw (fun el29__ g_el29__ gh_el29__ pb_el29__ z oh_el29__ d_el29__ hw => ?_)
          refine g_app z d_el29__ d_made_ hw (fun el29__ g_el29__ H z d_el29__ hw => ?_)
          refine o_fill oh_el29__ d_el29__ z (fun g30 z d31 => ?_)
          refine h_nmG (P := fun x => OLo OL K Ho v_hands_ x g30) hw d31 (fun hands_ d_hands_ hw => ?_)
          exact (run_ret hw) _ _ _ _ es20 z Dq.non d_hands_
def sp_look_at_targets (K : PySem.W.Frag) (cl : Nat → Addr) : Sp := fun vs H Q E => ∃ (amb : Grp) (Ho : Hp) (v0 : V) (x0 : (List (List PyData))), vs = [v0] ∧ Zs amb H Ho ∧ Z.D K Ho v0 x0 ∧ (m_look_at_targets x0).run fun r => ∀ v H' Ho', Same Ho Ho' → Zs amb H' Ho' → Z.D K Ho' v r → Q v H'
abbrev s_look_at_targets : Stmt := topS 24
theorem sc_look_at_targets : FnScope ["hands", "at", "hand", "row"] ["hands"] (defScope s_look_at_targets) := ⟨rfl, rfl, rfl, by decide +kernel, rfl, by decide +kernel, by decide +kernel⟩
theorem ok_look_at_targets {f : Addr} {fd : FuncData} (F : Fun K "look_at_targets" "look_at_targets" s_look_at_targets f fd) (m_len : mg "len" = none) :
    FnOk P w K mg base CX0 1 f fd ["hands"] (sp_look_at_targets K cl) := by
  refine F.ok sc_look_at_targets (fun vs H Q E h => ?_) (fun cdv A outer s H vs Q E hr h => ?_)
  · obtain ⟨amb, Ho, v_hands_, hands_, rfl, _⟩ := h
    rfl
  · obtain ⟨amb, Ho, v_hands_, hands_, rfl, z, d_hands_, hw⟩ := h
    refine ⟨_, pss_cons (ps_set (i := 1) sc_look_at_targets.nd rfl (Or.inl rfl) (pe_int)) (pss_cons (ps_for PassesOwn.never rfl (zpi_list (K := K) rfl (pv 0)) (pg_name (i := 2) sc_look_at_targets.nd rfl (Or.inl rfl)) (pss_cons (ps_aug (i := 1) sc_look_at_targets.nd rfl (Or.inl rfl) (pe_int) ip_add) (pss_cons (ps_for PassesOwn.never rfl (zpi_list (K := K) rfl (pv 2)) (pg_name (i := 3) sc_look_at_targets.nd rfl (Or.inl rfl)) (pss_cons (ps_aug (i := 1) sc_look_at_targets.nd rfl (Or.inl rfl) (pe_int) ip_add) (pss_cons (ps_if (PW.pt (pw_and (pt_cmpR ((zop_inT (K := K) rfl)) (pe_ix (zix_any (K := K) rfl) (pv 3) (pe_int) (fun _ _ => rfl)) (pe_tup (pa_cons (pe_str) (pa_cons (pe_str) (pa_nil)))) rfl) (pw_and1 (pt_cmpR (op_gt) (pe_ix (zix_any (K := K) rfl) (pv 3) (pe_un un_neg (pe_int)) (fun _ _ => rfl)) (pe_callB (zlen (K := K) rfl) (by rfl) m_len (by decide +kernel) (pa_cons (pv 2) (pa_nil))) (nomark _))))) (pss_cons (ps_never) (pss_nil)) (pss_nil)) (pss_nil)))) (pss_nil)))) (pss_nil)), ?_⟩
    refine l_asg (fun v => [_, some v, _, _]) (fun _ => rfl) ?_
    refine y_c ?_
    refine l_i hw (fun at_ hw => ?_)
    refine y_for ?_
    refine k_iList ?_
    refine y_var rfl ?_
    refine k_srcL (r0 := ([] : Grp)) (LV.of d_hands_) mgN z (fun J T => ?_)
    refine y_forL T hw (fun (s : Int) (σ : L2.St) (H Ho : Hp) => ∃ (y_hand_ : Option V) (y_row_ : Option V), σ = [some v_hands_, some (V.int s), y_hand_, y_row_] ∧ Zs amb H Ho) ⟨_, _, rfl, z⟩ ?_ ?_ ?_ ?_
    · intro s σ H Ho hI
      obtain ⟨y_hand_, y_row_, rfl, z⟩ := hI
      exact ⟨_, z, mgN⟩
    · intro s σ H Ho H2 Ho2 hI e t
      obtain ⟨y_hand_, y_row_, rfl, z⟩ := hI
      exact ⟨_, _, rfl, t _ z⟩
    · intro hand_ v_hand_ s σ H Ho N e hI d_hand_ hw
      obtain ⟨at_, rfl⟩ : ∃ q, q = s := ⟨_, rfl⟩
      obtain ⟨y_hand_, y_row_, rfl, z⟩ := hI
      have es1 := (Same.refl _).trans e
      refine y_gname (σ' := [some v_hands_, some (V.int at_), some v_hand_, y_row_]) rfl ?_
      refine l_aug (fun v => [_, some v, _, _]) rfl (fun _ => rfl) ?_
      refine y_c ?_
      refine y_ip (l_i hw (fun at_ hw => ?_))
      refine y_for ?_
      refine k_iList ?_
      refine y_var rfl ?_
      refine k_srcL (r0 := ([] : Grp)) (LV.of d_hand_) mgN z (fun J T => ?_)
      refine y_forL T hw (fun (s : Int) (σ : L2.St) (H Ho : Hp) => ∃ (y_row_ : Option V), σ = [some v_hands_, some (V.int s), some v_hand_, y_row_] ∧ Zs amb H Ho) ⟨_, rfl, z⟩ ?_ ?_ ?_ ?_
      · intro s σ H Ho hI
        obtain ⟨y_row_, rfl, z⟩ := hI
        exact ⟨_, z, mgN⟩
      · intro s σ H Ho H2 Ho2 hI e t
        obtain ⟨y_row_, rfl, z⟩ := hI
        exact ⟨_, rfl, t _ z⟩
      · intro row_ v_row_ s σ H Ho N e hI d_row_ hw
        obtain ⟨at_, rfl⟩ : ∃ q, q = s := ⟨_, rfl⟩
        obtain ⟨y_row_, rfl, z⟩ := hI
        replace d_hand_ := D.mo d_hand_ e
        have es2 := (Same.refl _).trans e
        refine y_gname (σ' := [some v_hands_, some (V.int at_), some v_hand_, some v_row_]) rfl ?_
        refine l_aug (fun v => [_, some v, _, _]) rfl (fun _ => rfl) ?_
        refine y_c ?_
        refine y_ip (l_i hw (fun at_ hw => ?_))
        refine y_ifS ?_
        refine y_and ?_
        refine y_test ?_
        refine y_op ?_
        refine y_op ?_
        refine y_var rfl ?_
        refine y_c ?_
        refine y_ixP d_row_ z hw (fun t3 w d4 hw => ?_)
        refine k_tup ?_
        refine y_cons ?_
        refine y_c ?_
        refine y_cons ?_
        refine y_c ?_
        refine y_nil ?_
        refine k_tupk (K := K) (x := (("go" : Str), ("unless" : Str))) z (by show 2 ≤ sizeLine; decide) _ rfl (DqAll.cons (Dq.str _) (DqAll.cons (Dq.str _) DqAll.nil)) (fun p H Ho e z d5 => ?_)
        replace d_hand_ := D.mo d_hand_ e
        replace d_row_ := D.mo d_row_ e
        replace d4 := D.mo d4 e
        have es6 := (Same.refl _).trans e
        refine y_fr (β := Str) d4 hw (fun t7 d8 hw => ?_)
        obtain rfl := d_str d8
        refine y_inT (ss := ([(("go" : Str), ("unless" : Str)).1, (("go" : Str), ("unless" : Str)).2] : List Str)) d5 rfl z ?_
        refine ⟨_, rfl, ?_⟩
        refine w_andJ hw (fun (s : Bool) (v : Bool) (H2 : Hp) => ∃ (Ho2 : Hp), Same Ho Ho2 ∧ Zs amb H2 Ho2 ∧ v = s) (fun hb hw => ?_) (fun hb hw => ?_) ?_
        · refine y_test ?_
          refine y_op ?_
          refine y_op ?_
          refine y_var rfl ?_
          refine y_un ?_
          refine y_c ?_
          refine y_neg ?_
          refine y_ixP d_row_ z hw (fun t9 w d10 hw => ?_)
          refine y_cb ?_
          refine y_cons ?_
          refine y_var rfl ?_
          refine y_nil ?_
          refine y_len (LV.of d_hand_) z ?_
          refine y_fr (β := Int) d10 hw (fun t11 d12 hw => ?_)
          obtain rfl := d_int d12
          refine y_i0 ?_
          refine ⟨_, rfl, ?_⟩
          exact (run_ret hw) _ _ ⟨_, (Same.refl _), z, rfl⟩
        · exact (run_ret hw) _ _ ⟨_, (Same.refl _), z, rfl⟩
        rintro t13 v H ⟨Ho, e, z, rfl⟩ hw
        replace d_hand_ := D.mo d_hand_ e
        replace d_row_ := D.mo d_row_ e
        have es16 := es6.trans e
        refine y_cases hw (fun hb hw => ?_) (fun hb hw => ?_)
        · exact hw.elim
        · refine y_nxS ?_
          exact (run_ret hw) _ _ _ es16 ⟨_, rfl, z⟩
      intro s σ H Ho e hI hw
      obtain ⟨at_, rfl⟩ : ∃ q, q = s := ⟨_, rfl⟩
      obtain ⟨y_row_, rfl, z⟩ := hI
      replace d_hand_ := D.mo d_hand_ e
      have es17 := (Same.refl _).trans e
      exact (run_ret hw) _ _ _ es17 ⟨_, _, rfl, z⟩
    intro s σ H Ho e hI hw
    obtain ⟨at_, rfl⟩ : ∃ q, q = s := ⟨_, rfl⟩
    obtain ⟨y_hand_, y_row_, rfl, z⟩ := hI
    have es18 := (Same.refl _).trans e
    exact (run_ret hw) _ _ _ es18 z Dq.non
def sp_read (K : PySem.W.Frag) (cl : Nat → Addr) : Sp := fun vs H Q E => ∃ (amb : Grp) (Ho : Hp) (v0 : V) (x0 : Str), vs = [v0] ∧ Zs amb H Ho ∧ Z.D K Ho v0 x0 ∧ (m_read x0).run fun r => ∀ v g H' Ho', Same Ho Ho' → Zs (g ++ amb) H' Ho' → OM (OLo OL) K Ho' v r g → Q v H'
abbrev s_read : Stmt := topS 25
theorem sc_read : FnScope ["text", "rows", "many", "hands", "at", "row"] ["text"] (defScope s_read) := ⟨rfl, rfl, rfl, by decide +kernel, rfl, by decide +kernel, by decide +kernel⟩
theorem ok_read {f : Addr} {fd : FuncData} (F : Fun K "read" "read" s_read f fd) {f_cells_of : Addr} {fd_cells_of : FuncData} (c_cells_of : Cal P w K mg base CX0 "cells_of" ["row"] 2 (sp_cells_of K cl) f_cells_of fd_cells_of) {f_take_row : Addr} {fd_take_row : FuncData} (c_take_row : Cal P w K mg base CX0 "take_row" ["hands", "words", "many", "at"] 6 (sp_take_row K cl) f_take_row fd_take_row) {f_look_at_targets : Addr} {fd_look_at_targets : FuncData} (c_look_at_targets : Cal P w K mg base CX0 "look_at_targets" ["hands"] 1 (sp_look_at_targets K cl) f_look_at_targets fd_look_at_targets) (m_enumerate : mg "enumerate" = none) (m_len : mg "len" = none) {tk_MOST_HANDS : Tok} (g_MOST_HANDS : mg "MOST_HANDS" = some (.int 8 tk_MOST_HANDS)) :
    FnOk P w K mg base CX0 7 f fd ["text"] (sp_read K cl) := by
  refine F.ok sc_read (fun vs H Q E h => ?_) (fun cdv A outer s H vs Q E hr h => ?_)
  · obtain ⟨amb, Ho, v_text_, text_, rfl, _⟩ := h
    rfl
  · obtain ⟨amb, Ho, v_text_, text_, rfl, z, d_text_, hw⟩ := h
    refine ⟨_, pss_cons (ps_set (i := 1) sc_read.nd rfl (Or.inl rfl) (pe_m1 PySem.F.slot_str_split PySem.F.type_str_split zmt_split (pv 0) (pe_str))) (pss_cons (ps_set (i := 2) sc_read.nd rfl (Or.inl rfl) (pe_call c_cells_of.ok (hr.mono (by decide)) (by rfl) c_cells_of.g c_cells_of.kp c_cells_of.b .nil pass0 (pa_cons (pe_ix (zix_list (K := K) rfl) (pv 1) (pe_int) (fun _ _ => rfl)) (pa_nil)))) (pss_cons (ps_set (i := 3) sc_read.nd rfl (Or.inl rfl) (pe_lst pa_nil)) (pss_cons (ps_for PassesOwn.never rfl (zpi_enumK (K := K) rfl (by rfl) m_enumerate (pa_cons (pe_slice (zsl_list (K := K) rfl) (pv 1) (po_some (pe_int)) po_none) (pa_nil)) (by decide) (by decide)) (zpg_tup (K := K) (n := 2) rfl rfl (pgs_cons (pg_name (i := 4) sc_read.nd rfl (Or.inl rfl)) (pgs_cons (pg_name (i := 5) sc_read.nd rfl (Or.inl rfl)) (pgs_nil)))) (pss_cons (ps_if (pt_cmpR (op_ne) (pv 5) (pe_str) (nomark _)) (pss_cons (ps_expr (pe_call c_take_row.ok (hr.mono (by decide)) (by rfl) c_take_row.g c_take_row.kp c_take_row.b .nil pass0 (pa_cons (pv 3) (pa_cons (pe_m1 PySem.F.slot_str_split PySem.F.type_str_split zmt_split (pv 5) (pe_str)) (pa_cons (pv 2) (pa_cons (pv 4) (pa_nil))))))) (pss_nil)) (pss_cons (ps_if (pt_cmpR (op_eq) (pe_callB (zlen (K := K) rfl) (by rfl) m_len (by decide +kernel) (pa_cons (pv 3) (pa_nil))) (pe_glob (v := .int 8) rfl g_MOST_HANDS ⟨_, rfl⟩) (nomark _)) (pss_cons (ps_never) (pss_nil)) (pss_cons (ps_expr (pe_bm PySem.F.plainAttrs_list PySem.F.slot_list_append PySem.F.type_list_append mt_append (pv 3) (pa_cons (pe_lst (pa_nil)) (pa_nil)))) (pss_nil))) (pss_nil))) (pss_nil))) (pss_cons (ps_if (pt_cmpR (zop_eqD (K := K) rfl hr.units) (pv 3) (pe_lst pa_nil) (nomark _)) (pss_cons (ps_never) (pss_nil)) (pss_nil)) (pss_cons (ps_expr (pe_call c_look_at_targets.ok (hr.mono (by decide)) (by rfl) c_look_at_targets.g c_look_at_targets.kp c_look_at_targets.b .nil pass0 (pa_cons (pv 3) (pa_nil)))) (pss_cons (ps_ret (pe_tup (pa_cons (pv 2) (pa_cons (pv 3) (pa_nil))))) (pss_nil))))))), ?_⟩
    obtain rfl := d_str d_text_
    refine l_asg (fun v => [_, some v, _, _, _, _]) (fun _ => rfl) ?_
    refine y_tm1 ?_
    refine y_var rfl ?_
    refine y_tm1s ?_
    refine y_c ?_
    refine y_split (K := K) z hw.1 (fun H p1 ws2 z d3 => ?_)
    replace hw := (run_gd hw).2
    replace z : Zs ([(p1, HO.lst ws2)] ++ amb) H Ho := z
    have o4 := OL.mk (p := p1) d3
    refine l_fr o4 z (fun Ho e z d5 => ?_)
    have es6 := (Same.refl _).trans e
    refine l_d (K := K) (Ho := Ho) hw d5 (fun rows_ v_rows_ d_rows_ hw => ?_)
    refine l_asg (fun v => [_, _, some v, _, _, _]) (fun _ => rfl) ?_
    refine y_call ?_
    refine y_cons ?_
    refine y_op ?_
    refine y_var rfl ?_
    refine y_c ?_
    refine y_ixL (LV.of d_rows_) z hw (fun t7 w d8 hw => ?_)
    obtain rfl := d_str d8
    refine y_nil ?_
    refine ⟨amb, _, _, _, rfl, z, (Dq.str _), ?_⟩
    refine run_mono3 hw (fun t9 hw v H Ho e z d10 => ?_)
    replace d_rows_ := D.mo d_rows_ e
    have es12 := es6.trans e
    obtain rfl := d_int d10
    refine l_i hw (fun many_ hw => ?_)
    refine l_asg (fun v => [_, _, _, some v, _, _]) (fun _ => rfl) ?_
    refine k_lst ?_
    refine y_nil ?_
    refine k_lstR (vs := []) z (by show 0 ≤ sizeLine; decide) (fun p13 H z => ?_)
    have o14 : OLo OL K Ho (.ref p13) ([] : (List (List PyData))) [(p13, HO.lst [])] := o_nil
    refine l_oG (P := OLo OL K Ho) hw z o14 (fun hands_ v_hands_ g_hands_ z d_hands_ hw => ?_)
    refine y_for ?_
    refine k_iEnumK ?_
    refine y_cons ?_
    refine y_sl ?_
    refine y_var rfl ?_
    refine y_part ?_
    refine y_c ?_
    refine ⟨_, rfl, ?_⟩
    refine y_noPart ?_
    refine y_slL (LV.of d_rows_) z (fun H p15 ws16 z d17 => ?_)
    replace z : Zs ([(p15, HO.lst ws16)] ++ (g_hands_ ++ amb)) H Ho := z
    have o18 := OL.mk (p := p15) d17
    refine y_nil ?_
    refine k_srcEK (r0 := [(p15, HO.lst ws16)]) (OL.lv o18 mgE) mg0 z (fun J T => ?_)
    refine y_forL T hw (fun (s : (List (List PyData))) (σ : L2.St) (H Ho : Hp) => ∃ (g_hands_ : Grp) (y_at_ : Option V) (y_row_ : Option V), σ = [some (V.str text_), some v_rows_, some (V.int many_), some v_hands_, y_at_, y_row_] ∧ Zs ([(p15, HO.lst ws16)] ++ (g_hands_ ++ amb)) H Ho ∧ OLo OL K Ho v_hands_ s g_hands_) ⟨_, _, _, rfl, z, d_hands_⟩ ?_ ?_ ?_ ?_
    · intro s σ H Ho hI
      obtain ⟨g_hands_, y_at_, y_row_, rfl, z, d_hands_⟩ := hI
      exact ⟨_, z, mg0⟩
    · intro s σ H Ho H2 Ho2 hI e t
      obtain ⟨g_hands_, y_at_, y_row_, rfl, z, d_hands_⟩ := hI
      exact ⟨_, _, _, rfl, t _ z, OLo.mo d_hands_ e⟩
    · intro a x s σ H Ho N e hI dx hw
      obtain ⟨hands_, rfl⟩ : ∃ q, q = s := ⟨_, rfl⟩
      obtain ⟨g_hands_, y_at_, y_row_, rfl, z, d_hands_⟩ := hI
      replace d_rows_ := D.mo d_rows_ e
      have es19 := es12.trans e
      obtain ⟨at_, row_⟩ := a
      refine c_gt2 (fun v_at_ v_row_ => [some (V.str text_), some v_rows_, some (V.int many_), some v_hands_, some v_at_, some v_row_]) (fun _ _ => rfl) dx z (fun v_at_ v_row_ d_at_ d_row_ => ?_)
      obtain rfl := d_int d_at_
      obtain rfl := d_str d_row_
      refine y_ifS ?_
      refine y_test ?_
      refine y_op ?_
      refine y_var rfl ?_
      refine y_c ?_
      refine y_nes ?_
      refine ⟨_, rfl, ?_⟩
      refine w_ifJ hw (fun (s : (List (List PyData))) (σ : L2.St) (H : Hp) => ∃ Ho2, Same Ho Ho2 ∧ (fun (s : (List (List PyData))) (σ : L2.St) (H Ho : Hp) => ∃ (g_hands_ : Grp), σ = [some (V.str text_), some v_rows_, some (V.int many_), some v_hands_, some (V.int at_), some (V.str row_)] ∧ Zs ([(p15, HO.lst ws16)] ++ (g_hands_ ++ amb)) H Ho ∧ OLo OL K Ho v_hands_ s g_hands_) s σ H Ho2) (fun hb hw => ?_) (fun hb hw => ?_) ?_
      · refine y_drop ?_
        refine y_call ?_
        refine y_cons ?_
        refine y_var rfl ?_
        refine y_cons ?_
        refine y_tm1 ?_
        refine y_var rfl ?_
        refine y_tm1s ?_
        refine y_c ?_
        refine y_split (K := K) z hw.1 (fun H p20 ws21 z d22 => ?_)
        replace hw := (run_gd hw).2
        replace z : Zs ([(p20, HO.lst ws21)] ++ ([(p15, HO.lst ws16)] ++ (g_hands_ ++ amb))) H Ho := z
        have o23 := OL.mk (p := p20) d22
        refine y_cons ?_
        refine y_var rfl ?_
        refine y_cons ?_
        refine y_var rfl ?_
        refine y_nil ?_
        replace z : Zs (g_hands_ ++ ([(p20, HO.lst ws21)] ++ ([(p15, HO.lst ws16)] ++ amb))) _ _ := z.go [[(p20, HO.lst ws21)], [(p15, HO.lst ws16)], g_hands_] amb [2, 0, 1]
        refine ⟨([(p20, HO.lst ws21)] ++ ([(p15, HO.lst ws16)] ++ amb)), _, _, _, _, _, _, _, _, _, _, rfl, z, d_hands_, (OL.lv o23 mg0), (Dq.int _), (Dq.int _), ?_⟩
        refine run_mono2 hw (fun t24 hands_ hw v g_hands_ H Ho e z d25 d_hands_ => ?_)
        replace d25 : Z.D K Ho v t24 := d25
        replace d_hands_ : OLo OL K Ho v_hands_ hands_ g_hands_ := d_hands_
        replace d_rows_ := D.mo d_rows_ e
        have es27 := (Same.refl _).trans e
        cases d25
        replace z : Zs ([(p15, HO.lst ws16)] ++ (g_hands_ ++ amb)) _ _ := z.go [g_hands_, [(p20, HO.lst ws21)], [(p15, HO.lst ws16)]] amb [2, 0]
        exact (run_ret hw) _ _ ⟨_, es27, ⟨_, rfl, z, d_hands_⟩⟩
      · refine y_ifS ?_
        refine y_test ?_
        refine y_op ?_
        refine y_cb ?_
        refine y_cons ?_
        refine y_var rfl ?_
        refine y_nil ?_
        refine y_lenLo ⟨_, d_hands_, (mgS mg0)⟩ z ?_
        refine y_c ?_
        refine y_eqi ?_
        refine ⟨_, rfl, ?_⟩
        refine y_cases hw (fun hb hw => ?_) (fun hb hw => ?_)
        · exact hw.elim
        · refine y_drop ?_
          refine y_bm ?_
          refine y_var rfl ?_
          refine g_tyLo ⟨_, d_hands_, (mgS mg0)⟩ z ?_
          refine y_cons ?_
          refine k_lst ?_
          refine y_nil ?_
          refine k_lstk (K := K) (xs := ([] : (List PyData))) z DqAll.nil (by show 0 ≤ sizeLine; decide) (fun H p28 ws29 z d30 => ?_)
          replace z : Zs ([(p28, HO.lst ws29)] ++ ([(p15, HO.lst ws16)] ++ (g_hands_ ++ amb))) H Ho := z
          have o31 := OL.mk (p := p28) d30
          refine y_nil ?_
          replace z : Zs ([(p28, HO.lst ws29)] ++ (g_hands_ ++ ([(p15, HO.lst ws16)] ++ amb))) _ _ := z.go [[(p28, HO.lst ws29)], [(p15, HO.lst ws16)], g_hands_] amb [0, 2, 1]
          refine g_appO z d_hands_ o31 hw (fun hands_ g_hands_ H z d_hands_ hw => ?_)
          refine y_nxS ?_
          replace z : Zs ([(p15, HO.lst ws16)] ++ (g_hands_ ++ amb)) _ _ := z.go [g_hands_, [(p15, HO.lst ws16)]] amb [1, 0]
          exact (run_ret hw) _ _ ⟨_, (Same.refl _), ⟨_, rfl, z, d_hands_⟩⟩
      rintro hands_ σ H ⟨Ho, e, g_hands_, rfl, z, d_hands_⟩ hw
      replace d_rows_ := D.mo d_rows_ e
      have es32 := (Same.refl _).trans e
      exact (run_ret hw) _ _ _ es32 ⟨_, _, _, rfl, z, d_hands_⟩
    intro s σ H Ho e hI hw
    obtain ⟨hands_, rfl⟩ : ∃ q, q = s := ⟨_, rfl⟩
    obtain ⟨g_hands_, y_at_, y_row_, rfl, z, d_hands_⟩ := hI
    replace d_rows_ := D.mo d_rows_ e
    have es33 := es12.trans e
    replace z : Zs (g_hands_ ++ amb) _ _ := z.go [[(p15, HO.lst ws16)], g_hands_] amb [1]
    refine y_ifS ?_
    refine y_test ?_
    refine y_op ?_
    refine y_var rfl ?_
    refine k_lst ?_
    refine y_nil ?_
    refine k_lstR (vs := []) z (by show 0 ≤ sizeLine; decide) (fun p34 H z => ?_)
    have o35 : OLo OL K Ho (.ref p34) ([] : (List (List PyData))) [(p34, HO.lst [])] := o_nil
    refine y_eqD (RdV.rd (RdV.ofO (P := OLo OL) d_hands_ (mgS mg0)) (fun _ h => h) z) (RdV.rd (RdV.ofO (P := OLo OL) o35 mg0) (fun _ h => h) z) hw.1 ?_
    replace hw := (run_gd hw).2
    refine ⟨_, rfl, ?_⟩
    refine y_cases hw (fun hb hw => ?_) (fun hb hw => ?_)
    · replace z : Zs (g_hands_ ++ amb) _ _ := z.go [[(p34, HO.lst [])], g_hands_] amb [1]
      exact hw.elim
    · refine y_nxS ?_
      replace z : Zs (g_hands_ ++ amb) _ _ := z.go [[(p34, HO.lst [])], g_hands_] amb [1]
      refine y_drop ?_
      refine y_call ?_
      refine y_cons ?_
      refine y_var rfl ?_
      refine y_nil ?_
      refine ⟨[], _, _, _, rfl, z.all, (OwnD.rd (P := OLo OL) d_hands_ z.le (z.in_ mg0)), ?_⟩
      refine run_mono3 hw (fun t36 hw v H Ho41 e39 z40 d37 => ?_)
      replace z := z.unlend e39 z40
      cases d37
      refine y_ret ?_
      refine k_tup ?_
      refine y_cons ?_
      refine y_var rfl ?_
      refine y_cons ?_
      refine y_var rfl ?_
      refine y_nil ?_
      refine p_tupk z (fun p43 H Ho e z t42 => ?_)
      replace d_hands_ := OLo.mo d_hands_ e
      have es44 := es33.trans e
      exact (run_ret hw) _ _ _ _ es44 z (OM.mk t42 d_hands_)
def sp_law_reel (K : PySem.W.Frag) (cl : Nat → Addr) : Sp := fun vs H Q E => ∃ (amb : Grp) (Ho : Hp) (v0 : V) (x0 : (List Int)), vs = [v0] ∧ Zs amb H Ho ∧ LV K amb Ho v0 x0 ∧ (m_law_reel x0).run fun r => ∀ v g H' Ho', Same Ho Ho' → Zs (g ++ amb) H' Ho' → OH K Ho' v r g → Q v H'
abbrev s_law_reel : Stmt := topS 27
theorem sc_law_reel : FnScope ["script", "stir", "cell", "great"] ["script"] (defScope s_law_reel) := ⟨rfl, rfl, rfl, by decide +kernel, rfl, by decide +kernel, by decide +kernel⟩
theorem ok_law_reel {f : Addr} {fd : FuncData} (F : Fun K "_law_reel" "_law_reel" s_law_reel f fd) :
    FnOk P w K mg base CX0 1 f fd ["script"] (sp_law_reel K cl) := by
  refine F.ok sc_law_reel (fun vs H Q E h => ?_) (fun cdv A outer s H vs Q E hr h => ?_)
  · obtain ⟨amb, Ho, v_script_, script_, rfl, _⟩ := h
    rfl
  · obtain ⟨amb, Ho, v_script_, script_, rfl, z, d_script_, hw⟩ := h
    refine ⟨_, pss_cons (ps_set (i := 1) sc_law_reel.nd rfl (Or.inl rfl) (pe_op op_pow (pe_int) (pe_int))) (pss_cons (ps_for PassesOwn.never rfl (zpi_list (K := K) rfl (pe_slice (zsl_list (K := K) rfl) (pv 0) po_none (po_some (pe_int)))) (pg_name (i := 2) sc_law_reel.nd rfl (Or.inl rfl)) (pss_cons (ps_set (i := 1) sc_law_reel.nd rfl (Or.inl rfl) (pe_op op_mod (pe_op op_add (pe_op op_add (pe_op op_mulW (pv 1) (pv 1)) (pe_op op_mod (pv 2) (pe_int))) (pe_int)) (pe_op op_sub (pe_op op_mulW (pe_op op_pow (pe_int) (pe_int)) (pe_op op_pow (pe_int) (pe_int))) (pe_int)))) (pss_nil))) (pss_cons (ps_setLc (i := 3) (own := [("cell", 2)]) rfl sc_law_reel.nd rfl rfl (sw_true rfl rfl rfl (by decide +kernel)) (zpi_list (K := K) rfl (pe_slice (zsl_list (K := K) rfl) (pv 0) po_none (po_some (pe_int)))) (blkOk_by (N := ["script", "stir", "cell", "great"]) (sc := defScope s_law_reel) (by decide +kernel)) (fun _ _ _ _ _ => pg_name (i := 2) sc_law_reel.nd rfl (Or.inl rfl)) (fun _ _ _ _ _ => pts_one (pt_cmpR (op_ge) (pv 2) (pe_op op_pow (pe_int) (pe_int)) (nomark _))) (fun _ _ _ _ _ => pe_op op_sub (pv 2) (pe_op op_pow (pe_int) (pe_int)))) (pss_cons (ps_ret (pe_lst (pa_cons (pv 3) (pa_cons (pe_op (zop_catS (K := K) rfl) (pe_lc (own := [("cell", 2)]) rfl sc_law_reel.nd (zpi_list (K := K) rfl (pe_slice (zsl_list (K := K) rfl) (pv 0) po_none (po_some (pe_int)))) (blkOk_by (N := ["script", "stir", "cell", "great"]) (sc := defScope s_law_reel) (by decide +kernel)) (fun _ _ _ _ _ => pg_name (i := 2) sc_law_reel.nd rfl (Or.inl rfl)) (fun _ _ _ _ _ => pts_nil) (fun _ _ _ _ _ => pe_op op_mod (pv 2) (pe_int))) (pe_lst (pa_cons (pe_int) (pa_nil)))) (pa_cons (pe_int) (pa_cons (pv 1) (pa_nil))))))) (pss_nil)))), ?_⟩
    refine l_asg (fun v => [_, some v, _, _]) (fun _ => rfl) ?_
    refine y_op ?_
    refine y_c ?_
    refine y_c ?_
    refine y_ig hw.1 ?_
    replace hw := (run_gd hw).2
    refine l_i hw (fun stir_ hw => ?_)
    refine y_for ?_
    refine k_iList ?_
    refine y_sl ?_
    refine y_var rfl ?_
    refine y_noPart ?_
    refine y_part ?_
    refine y_c ?_
    refine ⟨_, rfl, ?_⟩
    refine y_slL (LV.sub d_script_ mgE) z (fun H p1 ws2 z d3 => ?_)
    replace z : Zs ([(p1, HO.lst ws2)] ++ amb) H Ho := z
    have o4 := OL.mk (p := p1) d3
    refine k_srcL (r0 := [(p1, HO.lst ws2)]) (OL.lv o4 mgE) mg0 z (fun J T => ?_)
    refine y_forL T hw (fun (s : Int) (σ : L2.St) (H Ho : Hp) => ∃ (y_cell_ : Option V), σ = [some v_script_, some (V.int s), y_cell_, none] ∧ Zs ([(p1, HO.lst ws2)] ++ amb) H Ho) ⟨_, rfl, z⟩ ?_ ?_ ?_ ?_
    · intro s σ H Ho hI
      obtain ⟨y_cell_, rfl, z⟩ := hI
      exact ⟨_, z, mg0⟩
    · intro s σ H Ho H2 Ho2 hI e t
      obtain ⟨y_cell_, rfl, z⟩ := hI
      exact ⟨_, rfl, t _ z⟩
    · intro cell_ v_cell_ s σ H Ho N e hI d_cell_ hw
      obtain ⟨stir_, rfl⟩ : ∃ q, q = s := ⟨_, rfl⟩
      obtain ⟨y_cell_, rfl, z⟩ := hI
      replace d_script_ := LV.mo d_script_ e
      have es5 := (Same.refl _).trans e
      obtain rfl := d_int d_cell_
      refine y_gname (σ' := [some v_script_, some (V.int stir_), some (V.int cell_), none]) rfl ?_
      refine l_asg (fun v => [_, some v, _, _]) (fun _ => rfl) ?_
      refine y_op ?_
      refine y_op ?_
      refine y_op ?_
      refine y_op ?_
      refine y_var rfl ?_
      refine y_var rfl ?_
      refine y_ig hw.1 ?_
      replace hw := (run_gd hw).2
      refine y_op ?_
      refine y_var rfl ?_
      refine y_c ?_
      refine y_ig (by decide) ?_
      refine y_i0 ?_
      refine y_c ?_
      refine y_i0 ?_
      refine y_op ?_
      refine y_op ?_
      refine y_op ?_
      refine y_c ?_
      refine y_c ?_
      refine y_ig hw.1 ?_
      replace hw := (run_gd hw).2
      refine y_op ?_
      refine y_c ?_
      refine y_c ?_
      refine y_ig hw.1 ?_
      replace hw := (run_gd hw).2
      refine y_ig hw.1 ?_
      replace hw := (run_gd hw).2
      refine y_c ?_
      refine y_i0 ?_
      refine y_ig hw.1 ?_
      replace hw := (run_gd hw).2
      refine l_i hw (fun stir_ hw => ?_)
      exact (run_ret hw) _ _ _ (Same.refl _) ⟨_, rfl, z⟩
    intro s σ H Ho e hI hw
    obtain ⟨stir_, rfl⟩ : ∃ q, q = s := ⟨_, rfl⟩
    obtain ⟨y_cell_, rfl, z⟩ := hI
    replace d_script_ := LV.mo d_script_ e
    have es6 := (Same.refl _).trans e
    replace z : Zs amb _ _ := z.go [[(p1, HO.lst ws2)]] amb []
    refine l_asg (fun v => [_, _, _, some v]) (fun _ => rfl) ?_
    refine y_lc ?_
    refine k_iList ?_
    refine y_sl ?_
    refine y_var rfl ?_
    refine y_noPart ?_
    refine y_part ?_
    refine y_c ?_
    refine ⟨_, rfl, ?_⟩
    refine y_slL (LV.sub d_script_ mgE) z (fun H p7 ws8 z d9 => ?_)
    replace z : Zs ([(p7, HO.lst ws8)] ++ amb) H Ho := z
    have o10 := OL.mk (p := p7) d9
    refine k_srcL (r0 := [(p7, HO.lst ws8)]) (OL.lv o10 mgE) mg0 z (fun J T => ?_)
    refine y_lcG z mg0 T hw (fun r11 cell_ v_cell_ H Ho N N' e z d_cell_ hw => ?_) (fun t16 H Ho e hw p13 ws14 z d15 => ?_)
    · replace z : Zs ([r11] ++ ([(p7, HO.lst ws8)] ++ amb)) H Ho := z
      replace d_script_ := LV.mo d_script_ e
      have es12 := es6.trans e
      obtain rfl := d_int d_cell_
      refine y_gname (σ' := [some v_script_, some (V.int stir_), some (V.int cell_), none]) rfl ?_
      refine ⟨rfl, ?_⟩
      refine y_test ?_
      refine y_op ?_
      refine y_var rfl ?_
      refine y_op ?_
      refine y_c ?_
      refine y_c ?_
      refine y_ig hw.1 ?_
      replace hw := (run_gd hw).2
      refine y_i0 ?_
      refine ⟨_, rfl, ?_⟩
      refine w_two (fun hb => ?_) (fun hb => ?_)
      · replace hw := run_itT (run_ret hw) hb
        refine y_op ?_
        refine y_var rfl ?_
        refine y_op ?_
        refine y_c ?_
        refine y_c ?_
        refine y_ig hw.1 ?_
        replace hw := (run_gd hw).2
        refine y_i0 ?_
        exact (run_ret hw) _ _ _ (Same.refl _) z (Dq.int _)
      · exact run_itF (run_ret hw) hb _ _ (Same.refl _) z
    replace d_script_ := LV.mo d_script_ e
    have es17 := es6.trans e
    replace z : Zs ([(p13, HO.lst ws14)] ++ ([(p7, HO.lst ws8)] ++ amb)) H Ho := z
    have o18 := OL.mk (p := p13) d15
    refine l_fr o18 z (fun Ho e z d19 => ?_)
    replace d_script_ := LV.mo d_script_ e
    have es20 := es17.trans e
    refine l_d (K := K) (Ho := Ho) hw d19 (fun great_ v_great_ d_great_ hw => ?_)
    replace z : Zs amb _ _ := z.go [[(p7, HO.lst ws8)]] amb []
    refine y_ret ?_
    refine k_lst ?_
    refine y_cons ?_
    refine y_var rfl ?_
    refine y_cons ?_
    refine y_op ?_
    refine y_lc ?_
    refine k_iList ?_
    refine y_sl ?_
    refine y_var rfl ?_
    refine y_noPart ?_
    refine y_part ?_
    refine y_c ?_
    refine ⟨_, rfl, ?_⟩
    refine y_slL (LV.sub d_script_ mgE) z (fun H p21 ws22 z d23 => ?_)
    replace z : Zs ([(p21, HO.lst ws22)] ++ amb) H Ho := z
    have o24 := OL.mk (p := p21) d23
    refine k_srcL (r0 := [(p21, HO.lst ws22)]) (OL.lv o24 mgE) mg0 z (fun J T => ?_)
    refine y_lcG z mg0 T hw (fun r25 cell_ v_cell_ H Ho N N' e z d_cell_ hw => ?_) (fun t30 H Ho e hw p27 ws28 z d29 => ?_)
    · replace z : Zs ([r25] ++ ([(p21, HO.lst ws22)] ++ amb)) H Ho := z
      replace d_great_ := D.mo d_great_ e
      replace d_script_ := LV.mo d_script_ e
      have es26 := es20.trans e
      obtain rfl := d_int d_cell_
      refine y_gname (σ' := [some v_script_, some (V.int stir_), some (V.int cell_), some v_great_]) rfl ?_
      refine ⟨rfl, ?_⟩
      refine y_yes (w_t ?_)
      replace hw := run_itT (run_bret hw) rfl
      refine y_op ?_
      refine y_var rfl ?_
      refine y_c ?_
      refine y_ig (by decide) ?_
      exact (run_ret hw) _ _ _ (Same.refl _) z (Dq.int _)
    replace d_great_ := D.mo d_great_ e
    replace d_script_ := LV.mo d_script_ e
    have es31 := es20.trans e
    replace z : Zs ([(p27, HO.lst ws28)] ++ ([(p21, HO.lst ws22)] ++ amb)) H Ho := z
    have o32 := OL.mk (p := p27) d29
    refine k_lst ?_
    refine y_cons ?_
    refine y_c ?_
    refine y_nil ?_
    refine k_lstk (K := K) (xs := ([(41 : Int)] : (List Int))) z (DqAll.cons (Dq.int _) DqAll.nil) (by show 1 ≤ sizeLine; decide) (fun H p33 ws34 z d35 => ?_)
    replace z : Zs ([(p33, HO.lst ws34)] ++ ([(p27, HO.lst ws28)] ++ ([(p21, HO.lst ws22)] ++ amb))) H Ho := z
    have o36 := OL.mk (p := p33) d35
    refine y_cat (OL.lv o32 (mgS mg0)) (OL.lv o36 mg0) z hw.1 (fun H p37 ws38 z d39 => ?_)
    replace hw := (run_gd hw).2
    replace z : Zs ([(p37, HO.lst ws38)] ++ ([(p33, HO.lst ws34)] ++ ([(p27, HO.lst ws28)] ++ ([(p21, HO.lst ws22)] ++ amb)))) H Ho := z
    have o40 := OL.mk (p := p37) d39
    refine y_cons ?_
    refine y_c ?_
    refine y_cons ?_
    refine y_var rfl ?_
    refine y_nil ?_
    refine l_fr o40 z (fun Ho e z d41 => ?_)
    replace d_great_ := D.mo d_great_ e
    replace d_script_ := LV.mo d_script_ e
    have es42 := es31.trans e
    refine k_hlst (K := K) (x := (⟨great_, (t30 ++ ([(41 : Int)] : (List Int))), (0 : Int), stir_⟩ : (H4 (List Int) (List Int) Int Int))) z (DqAll.cons d_great_ (DqAll.cons d41 (DqAll.cons (Dq.int _) (DqAll.cons (Dq.int _) DqAll.nil)))) (by show 4 ≤ sizeLine; decide) (fun H p45 g43 z o44 => ?_)
    replace z : Zs (g43 ++ amb) _ _ := z.go [g43, [(p33, HO.lst ws34)], [(p27, HO.lst ws28)], [(p21, HO.lst ws22)]] amb [0]
    exact (run_ret hw) _ _ _ _ es42 z o44
def sp_law_draw (K : PySem.W.Frag) (cl : Nat → Addr) : Sp := fun vs H Q E => ∃ (amb : Grp) (Ho : Hp) (v0 : V) (x0 : (H4 (List Int) (List Int) Int Int)) (g0 : Grp) (v1 : V) (x1 : Int), vs = [v0, v1] ∧ Zs (g0 ++ amb) H Ho ∧ OH K Ho v0 x0 g0 ∧ Z.D K Ho v1 x1 ∧ (m_law_draw x0 x1).run fun r => ∀ v h0 H' Ho', Same Ho Ho' → Zs (h0 ++ amb) H' Ho' → Z.D K Ho' v r.1 → OH K Ho' v0 r.2 h0 → Q v H'
abbrev s_law_draw : Stmt := topS 28
theorem sc_law_draw : FnScope ["reel", "many", "rest", "told", "stir"] ["reel", "many"] (defScope s_law_draw) := ⟨rfl, rfl, rfl, by decide +kernel, rfl, by decide +kernel, by decide +kernel⟩
theorem ok_law_draw {f : Addr} {fd : FuncData} (F : Fun K "_law_draw" "_law_draw" s_law_draw f fd) (m_int : mg "int" = none) (m_len : mg "len" = none) :
    FnOk P w K mg base CX0 1 f fd ["reel", "many"] (sp_law_draw K cl) := by
  refine F.ok sc_law_draw (fun vs H Q E h => ?_) (fun cdv A outer s H vs Q E hr h => ?_)
  · obtain ⟨amb, Ho, v_reel_, reel_, g_reel_, v_many_, many_, rfl, _⟩ := h
    rfl
  · obtain ⟨amb, Ho, v_reel_, reel_, g_reel_, v_many_, many_, rfl, z, d_reel_, d_many_, hw⟩ := h
    refine ⟨_, pss_cons (ps_if (pt_cmpR (zop_neD (K := K) rfl hr.units) (pe_ix (zix_list (K := K) rfl) (pv 0) (pe_int) (fun _ _ => rfl)) (pe_lst (pa_nil)) (nomark _)) (pss_cons (ps_set (i := 2) sc_law_draw.nd rfl (Or.inl rfl) (pe_ix (zix_list (K := K) rfl) (pe_ix (zix_list (K := K) rfl) (pv 0) (pe_int) (fun _ _ => rfl)) (pe_int) (fun _ _ => rfl))) (pss_cons (ps_asg (pe_op (zop_catS (K := K) rfl) (pe_op op_rep (pe_lst (pa_cons (pe_op op_fdivW (pv 2) (pv 1)) (pa_nil))) (pe_callTy call_int1 (by rfl) m_int (by decide +kernel) (pa_cons (pe_cmpR (op_ge) (pv 2) (pv 1) (nomark _)) (pa_nil)))) (pe_slice (zsl_list (K := K) rfl) (pe_ix (zix_list (K := K) rfl) (pv 0) (pe_int) (fun _ _ => rfl)) (po_some (pe_int)) po_none)) (pg_sub (pv 0) (pe_int) set_list)) (pss_cons (ps_ret (pe_op op_mod (pv 2) (pv 1))) (pss_nil)))) (pss_nil)) (pss_cons (ps_asg (pe_op op_add (pe_ix (zix_list (K := K) rfl) (pv 0) (pe_int) (fun _ _ => rfl)) (pe_int)) (pg_sub (pv 0) (pe_int) set_list)) (pss_cons (ps_set (i := 3) sc_law_draw.nd rfl (Or.inl rfl) (pe_ix (zix_list (K := K) rfl) (pe_ix (zix_list (K := K) rfl) (pv 0) (pe_int) (fun _ _ => rfl)) (pe_op op_mod (pe_ix (zix_list (K := K) rfl) (pv 0) (pe_int) (fun _ _ => rfl)) (pe_callB (zlen (K := K) rfl) (by rfl) m_len (by decide +kernel) (pa_cons (pe_ix (zix_list (K := K) rfl) (pv 0) (pe_int) (fun _ _ => rfl)) (pa_nil)))) (fun _ _ => rfl))) (pss_cons (ps_set (i := 4) sc_law_draw.nd rfl (Or.inl rfl) (pe_op op_add (pe_op op_add (pe_op op_mulW (pe_ix (zix_list (K := K) rfl) (pv 0) (pe_int) (fun _ _ => rfl)) (pe_ix (zix_list (K := K) rfl) (pv 0) (pe_int) (fun _ _ => rfl))) (pe_op op_mulW (pe_op op_add (pv 3) (pe_int)) (pe_int))) (pe_op op_mulW (pe_ix (zix_list (K := K) rfl) (pv 0) (pe_int) (fun _ _ => rfl)) (pe_int)))) (pss_cons (ps_asg (pe_op op_mod (pv 4) (pe_op op_sub (pe_op op_mulW (pe_op op_pow (pe_int) (pe_int)) (pe_op op_pow (pe_int) (pe_int))) (pe_int))) (pg_sub (pv 0) (pe_int) set_list)) (pss_cons (ps_ret (pe_op op_mod (pe_op op_fdivW (pe_ix (zix_list (K := K) rfl) (pv 0) (pe_int) (fun _ _ => rfl)) (pe_op op_pow (pe_int) (pe_int))) (pv 1))) (pss_nil)))))), ?_⟩
    obtain rfl := d_int d_many_
    refine y_ifS ?_
    refine y_test ?_
    refine y_op ?_
    refine y_op ?_
    refine y_var rfl ?_
    refine y_c ?_
    refine h_ix (y := reel_.a) d_reel_ z rfl (fun w d1 => ?_)
    refine k_lst ?_
    refine y_nil ?_
    refine k_lstk (K := K) (xs := ([] : (List Int))) z DqAll.nil (by show 0 ≤ sizeLine; decide) (fun H p2 ws3 z d4 => ?_)
    replace z : Zs ([(p2, HO.lst ws3)] ++ (g_reel_ ++ amb)) H Ho := z
    have o5 := OL.mk (p := p2) d4
    refine y_neD (D.mo d1 z.le) (LV.dp (OL.lv o5 mg0) z) hw.1 ?_
    replace hw := (run_gd hw).2
    refine ⟨_, rfl, ?_⟩
    refine y_cases hw (fun hb hw => ?_) (fun hb hw => ?_)
    · replace z : Zs (g_reel_ ++ amb) _ _ := z.go [[(p2, HO.lst ws3)], g_reel_] amb [1]
      refine l_asg (fun v => [_, _, some v, _, _]) (fun _ => rfl) ?_
      refine y_op ?_
      refine y_op ?_
      refine y_var rfl ?_
      refine y_c ?_
      refine h_ix (y := reel_.a) d_reel_ z rfl (fun w d6 => ?_)
      refine y_c ?_
      refine y_ixL (LV.of d6) z hw (fun t7 w d8 hw => ?_)
      obtain rfl := d_int d8
      refine l_i hw (fun rest_ hw => ?_)
      refine y_asgG ?_
      refine y_op ?_
      refine y_op ?_
      refine k_lst ?_
      refine y_cons ?_
      refine y_op ?_
      refine y_var rfl ?_
      refine y_var rfl ?_
      refine y_ig hw.1 ?_
      replace hw := (run_gd hw).2
      refine y_nil ?_
      refine k_lstk (K := K) (xs := ([(rest_ / many_)] : (List Int))) z (DqAll.cons (Dq.int _) DqAll.nil) (by show 1 ≤ sizeLine; decide) (fun H p9 ws10 z d11 => ?_)
      replace z : Zs ([(p9, HO.lst ws10)] ++ (g_reel_ ++ amb)) H Ho := z
      have o12 := OL.mk (p := p9) d11
      refine y_cb ?_
      refine y_cons ?_
      refine y_op ?_
      refine y_var rfl ?_
      refine y_var rfl ?_
      refine y_i0 ?_
      refine y_nil ?_
      refine Or.inr ⟨_, rfl, ?_⟩
      refine y_rep z d11 hw.1 (fun H p13 ws14 z d15 => ?_)
      replace hw := (run_gd hw).2
      replace z : Zs ([(p13, HO.lst ws14)] ++ (g_reel_ ++ amb)) H Ho := z
      have o16 := OL.mk (p := p13) d15
      refine y_sl ?_
      refine y_op ?_
      refine y_var rfl ?_
      refine y_c ?_
      replace z : Zs (g_reel_ ++ ([(p13, HO.lst ws14)] ++ amb)) _ _ := z.go [[(p13, HO.lst ws14)], g_reel_] amb [1, 0]
      refine h_ix (y := reel_.a) d_reel_ z rfl (fun w d17 => ?_)
      refine y_part ?_
      refine y_c ?_
      refine ⟨_, rfl, ?_⟩
      refine y_noPart ?_
      refine y_slL (LV.of d17) z (fun H p18 ws19 z d20 => ?_)
      replace z : Zs ([(p18, HO.lst ws19)] ++ (g_reel_ ++ ([(p13, HO.lst ws14)] ++ amb))) H Ho := z
      have o21 := OL.mk (p := p18) d20
      refine y_cat (OL.lv o16 (mgS (mgS mg0))) (OL.lv o21 mg0) z hw.1 (fun H p22 ws23 z d24 => ?_)
      replace hw := (run_gd hw).2
      replace z : Zs ([(p22, HO.lst ws23)] ++ ([(p18, HO.lst ws19)] ++ (g_reel_ ++ ([(p13, HO.lst ws14)] ++ amb)))) H Ho := z
      have o25 := OL.mk (p := p22) d24
      refine l_fr o25 z (fun Ho e z d26 => ?_)
      replace d_reel_ := OH.mo d_reel_ e
      have es27 := (Same.refl _).trans e
      refine y_gsub ?_
      refine y_var rfl ?_
      refine y_c ?_
      replace z : Zs (g_reel_ ++ ([(p18, HO.lst ws19)] ++ ([(p13, HO.lst ws14)] ++ amb))) _ _ := z.go [[(p18, HO.lst ws19)], g_reel_, [(p13, HO.lst ws14)]] amb [1, 0, 2]
      refine h_st (y := ({ reel_ with a := ((repL ([(rest_ / many_)] : (List Int)) (if (decide (rest_ ≥ many_)) then (1 : Int) else 0)) ++ (Z.cut reel_.a (some (1 : Int)) none)) } : (H4 (List Int) (List Int) Int Int))) z d_reel_ d26 rfl rfl (fun g_reel_ H z d_reel_ => ?_)
      refine h_nm hw d_reel_ (fun reel_ d_reel_ hw => ?_)
      replace z : Zs (g_reel_ ++ amb) _ _ := z.go [g_reel_, [(p18, HO.lst ws19)], [(p13, HO.lst ws14)]] amb [0]
      refine y_ret ?_
      refine y_op ?_
      refine y_var rfl ?_
      refine y_var rfl ?_
      refine y_ig hw.1 ?_
      replace hw := (run_gd hw).2
      exact (run_ret hw) _ _ _ _ es27 z (Dq.int _) d_reel_
    · refine y_nxS ?_
      replace z : Zs (g_reel_ ++ amb) _ _ := z.go [[(p2, HO.lst ws3)], g_reel_] amb [1]
      refine y_asgG ?_
      refine y_op ?_
      refine y_op ?_
      refine y_var rfl ?_
      refine y_c ?_
      refine h_ix (y := reel_.c) d_reel_ z rfl (fun w d28 => ?_)
      obtain rfl := d_int d28
      refine y_c ?_
      refine y_i0 ?_
      refine y_gsub ?_
      refine y_var rfl ?_
      refine y_c ?_
      refine h_st (y := ({ reel_ with c := (reel_.c + (1 : Int)) } : (H4 (List Int) (List Int) Int Int))) z d_reel_ (Dq.int _) rfl rfl (fun g_reel_ H z d_reel_ => ?_)
      refine h_nm hw d_reel_ (fun reel_ d_reel_ hw => ?_)
      refine l_asg (fun v => [_, _, _, some v, _]) (fun _ => rfl) ?_
      refine y_op ?_
      refine y_op ?_
      refine y_var rfl ?_
      refine y_c ?_
      refine h_ix (y := reel_.b) d_reel_ z rfl (fun w d29 => ?_)
      refine y_op ?_
      refine y_op ?_
      refine y_var rfl ?_
      refine y_c ?_
      refine h_ix (y := reel_.c) d_reel_ z rfl (fun w d30 => ?_)
      obtain rfl := d_int d30
      refine y_cb ?_
      refine y_cons ?_
      refine y_op ?_
      refine y_var rfl ?_
      refine y_c ?_
      refine h_ix (y := reel_.b) d_reel_ z rfl (fun w d31 => ?_)
      refine y_nil ?_
      refine y_len (LV.of d31) z ?_
      refine y_ig hw.1 ?_
      replace hw := (run_gd hw).2
      refine y_ixL (LV.of d29) z hw (fun t32 w d33 hw => ?_)
      obtain rfl := d_int d33
      refine l_i hw (fun told_ hw => ?_)
      refine l_asg (fun v => [_, _, _, _, some v]) (fun _ => rfl) ?_
      refine y_op ?_
      refine y_op ?_
      refine y_op ?_
      refine y_op ?_
      refine y_var rfl ?_
      refine y_c ?_
      refine h_ix (y := reel_.d) d_reel_ z rfl (fun w d34 => ?_)
      obtain rfl := d_int d34
      refine y_op ?_
      refine y_var rfl ?_
      refine y_c ?_
      refine h_ix (y := reel_.d) d_reel_ z rfl (fun w d35 => ?_)
      obtain rfl := d_int d35
      refine y_ig hw.1 ?_
      replace hw := (run_gd hw).2
      refine y_op ?_
      refine y_op ?_
      refine y_var rfl ?_
      refine y_c ?_
      refine y_i0 ?_
      refine y_c ?_
      refine y_ig hw.1 ?_
      replace hw := (run_gd hw).2
      refine y_i0 ?_
      refine y_op ?_
      refine y_op ?_
      refine y_var rfl ?_
      refine y_c ?_
      refine h_ix (y := reel_.c) d_reel_ z rfl (fun w d36 => ?_)
      obtain rfl := d_int d36
      refine y_c ?_
      refine y_ig hw.1 ?_
      replace hw := (run_gd hw).2
      refine y_i0 ?_
      refine l_i hw (fun stir_ hw => ?_)
      refine y_asgG ?_
      refine y_op ?_
      refine y_var rfl ?_
      refine y_op ?_
      refine y_op ?_
      refine y_op ?_
      refine y_c ?_
      refine y_c ?_
      refine y_ig hw.1 ?_
      replace hw := (run_gd hw).2
      refine y_op ?_
      refine y_c ?_
      refine y_c ?_
      refine y_ig hw.1 ?_
      replace hw := (run_gd hw).2
      refine y_ig hw.1 ?_
      replace hw := (run_gd hw).2
      refine y_c ?_
      refine y_i0 ?_
      refine y_ig hw.1 ?_
      replace hw := (run_gd hw).2
      refine y_gsub ?_
      refine y_var rfl ?_
      refine y_c ?_
      refine h_st (y := ({ reel_ with d := (stir_ % ((((2 : Int) ^ ((64 : Int)).toNat) * ((2 : Int) ^ ((63 : Int)).toNat)) - (1 : Int))) } : (H4 (List Int) (List Int) Int Int))) z d_reel_ (Dq.int _) rfl rfl (fun g_reel_ H z d_reel_ => ?_)
      refine h_nm hw d_reel_ (fun reel_ d_reel_ hw => ?_)
      refine y_ret ?_
      refine y_op ?_
      refine y_op ?_
      refine y_op ?_
      refine y_var rfl ?_
      refine y_c ?_
      refine h_ix (y := reel_.d) d_reel_ z rfl (fun w d37 => ?_)
      obtain rfl := d_int d37
      refine y_op ?_
      refine y_c ?_
      refine y_c ?_
      refine y_ig hw.1 ?_
      replace hw := (run_gd hw).2
      refine y_ig hw.1 ?_
      replace hw := (run_gd hw).2
      refine y_var rfl ?_
      refine y_ig hw.1 ?_
      replace hw := (run_gd hw).2
      exact (run_ret hw) _ _ _ _ (Same.refl _) z (Dq.int _) d_reel_
def sp_law_alike_R (n : Nat) (K : PySem.W.Frag) (cl : Nat → Addr) : Sp := fun vs H Q E => ∃ (amb : Grp) (Ho : Hp) (v0 : V) (x0 : PyData) (v1 : V) (x1 : PyData), vs = [v0, v1] ∧ Zs amb H Ho ∧ Z.D K Ho v0 x0 ∧ Z.D K Ho v1 x1 ∧ (m_law_alike_R n x0 x1).run fun r => ∀ v H' Ho', Same Ho Ho' → Zs amb H' Ho' → Z.D K Ho' v r → Q v H'
abbrev s_law_alike : Stmt := topS 29
theorem sc_law_alike : FnScope ["found", "due", "mine", "other"] ["found", "due"] (defScope s_law_alike) := ⟨rfl, rfl, rfl, by decide +kernel, rfl, by decide +kernel, by decide +kernel⟩
theorem ok_law_alike_S {f : Addr} {fd : FuncData} (F : Fun K "_law_alike" "_law_alike" s_law_alike f fd) {n : Nat} (c_law_alike : Cal P w K mg base CX0 "_law_alike" ["found", "due"] (1 + n) (sp_law_alike_R n K cl) f fd) (m_isinstance : mg "isinstance" = none) (m_tuple : mg "tuple" = none) (m_list : mg "list" = none) (m_len : mg "len" = none) (m_zip : mg "zip" = none) (m_all : mg "all" = none) (m_bool : mg "bool" = none) (m_str : mg "str" = none) (m_int : mg "int" = none) :
    FnOk P w K mg base CX0 (1 + n + 1) f fd ["found", "due"] (sp_law_alike_R (n + 1) K cl) := by
  refine F.ok sc_law_alike (fun vs H Q E h => ?_) (fun cdv A outer s H vs Q E hr h => ?_)
  · obtain ⟨amb, Ho, v_found_, found_, v_due_, due_, rfl, _⟩ := h
    rfl
  · obtain ⟨amb, Ho, v_found_, found_, v_due_, due_, rfl, z, d_found_, d_due_, hw⟩ := h
    refine ⟨_, pss_cons (ps_if (PW.pt (pw_or (pt_val (pe_callB (zisi (K := K) rfl) (by rfl) m_isinstance (by decide +kernel) (pa_cons (pv 1) (pa_cons (pe_bltn (v := .ty "tuple") (by rfl) m_tuple (by decide +kernel) rfl) pa_nil)))) (pw_or1 (pt_val (pe_callB (zisi (K := K) rfl) (by rfl) m_isinstance (by decide +kernel) (pa_cons (pv 1) (pa_cons (pe_bltn (v := .ty "list") (by rfl) m_list (by decide +kernel) rfl) pa_nil))))))) (pss_cons (ps_if (PW.pt (pw_or (pt_cmpR (op_ne) (pe_callB (zisi (K := K) rfl) (by rfl) m_isinstance (by decide +kernel) (pa_cons (pv 0) (pa_cons (pe_bltn (v := .ty "tuple") (by rfl) m_tuple (by decide +kernel) rfl) pa_nil))) (pe_callB (zisi (K := K) rfl) (by rfl) m_isinstance (by decide +kernel) (pa_cons (pv 1) (pa_cons (pe_bltn (v := .ty "tuple") (by rfl) m_tuple (by decide +kernel) rfl) pa_nil))) (nomark _)) (pw_or1 (pt_cmpR (op_ne) (pe_callB (zisi (K := K) rfl) (by rfl) m_isinstance (by decide +kernel) (pa_cons (pv 0) (pa_cons (pe_bltn (v := .ty "list") (by rfl) m_list (by decide +kernel) rfl) pa_nil))) (pe_callB (zisi (K := K) rfl) (by rfl) m_isinstance (by decide +kernel) (pa_cons (pv 1) (pa_cons (pe_bltn (v := .ty "list") (by rfl) m_list (by decide +kernel) rfl) pa_nil))) (nomark _))))) (pss_cons (ps_ret (pe_bl)) (pss_nil)) (pss_nil)) (pss_cons (ps_if (pt_cmpR (op_ne) (pe_callB (zlen (K := K) rfl) (by rfl) m_len (by decide +kernel) (pa_cons (pv 0) (pa_nil))) (pe_callB (zlen (K := K) rfl) (by rfl) m_len (by decide +kernel) (pa_cons (pv 1) (pa_nil))) (nomark _)) (pss_cons (ps_ret (pe_bl)) (pss_nil)) (pss_nil)) (pss_cons (ps_ret (pe_callB (zall (K := K) rfl rfl) (by rfl) m_all (by decide +kernel) (pa_cons (pe_lc (own := [("mine", 2), ("other", 3)]) rfl sc_law_alike.nd (zpi_zipA (K := K) rfl (by rfl) m_zip (pa_cons (pv 0) (pa_cons (pv 1) (pa_nil)))) (blkOk_by (N := ["found", "due", "mine", "other"]) (sc := defScope s_law_alike) (by decide +kernel)) (fun _ _ _ _ _ => zpg_tup (K := K) (n := 2) rfl rfl (pgs_cons (pg_name (i := 2) sc_law_alike.nd rfl (Or.inl rfl)) (pgs_cons (pg_name (i := 3) sc_law_alike.nd rfl (Or.inl rfl)) (pgs_nil)))) (fun _ _ _ _ _ => pts_nil) (fun _ _ _ _ _ => pe_call c_law_alike.ok (hr.mono (by omega)) (by rfl) c_law_alike.g c_law_alike.kp c_law_alike.b .nil pass0 (pa_cons (pv 2) (pa_cons (pv 3) (pa_nil))))) (pa_nil)))) (pss_nil)))) (pss_nil)) (pss_cons (ps_if (pt_cmpR (op_isN) (pv 1) (pe_non) (nomark _)) (pss_cons (ps_ret (pe_cmpR (op_isN) (pv 0) (pe_non) (nomark _))) (pss_nil)) (pss_nil)) (pss_cons (ps_if (PW.pt (pw_or (pt_val (pe_callB (zisi (K := K) rfl) (by rfl) m_isinstance (by decide +kernel) (pa_cons (pv 1) (pa_cons (pe_bltn (v := .ty "bool") (by rfl) m_bool (by decide +kernel) rfl) pa_nil)))) (pw_or1 (pt_val (pe_callB (zisi (K := K) rfl) (by rfl) m_isinstance (by decide +kernel) (pa_cons (pv 1) (pa_cons (pe_bltn (v := .ty "str") (by rfl) m_str (by decide +kernel) rfl) pa_nil))))))) (pss_cons (ps_ret (pe_and (pe_cmpR (op_eq) (pe_callB (zisi (K := K) rfl) (by rfl) m_isinstance (by decide +kernel) (pa_cons (pv 0) (pa_cons (pe_bltn (v := .ty "bool") (by rfl) m_bool (by decide +kernel) rfl) pa_nil))) (pe_callB (zisi (K := K) rfl) (by rfl) m_isinstance (by decide +kernel) (pa_cons (pv 1) (pa_cons (pe_bltn (v := .ty "bool") (by rfl) m_bool (by decide +kernel) rfl) pa_nil))) (nomark _)) (pe_one (pe_cmpR (zop_eqD (K := K) rfl hr.units) (pv 0) (pv 1) (nomark _))))) (pss_nil)) (pss_nil)) (pss_cons (ps_ret (pe_and (pe_callB (zisi (K := K) rfl) (by rfl) m_isinstance (by decide +kernel) (pa_cons (pv 0) (pa_cons (pe_bltn (v := .ty "int") (by rfl) m_int (by decide +kernel) rfl) pa_nil))) (pe_and (pe_not (pe_callB (zisi (K := K) rfl) (by rfl) m_isinstance (by decide +kernel) (pa_cons (pv 0) (pa_cons (pe_bltn (v := .ty "bool") (by rfl) m_bool (by decide +kernel) rfl) pa_nil)))) (pe_one (pe_cmpR (zop_eqD (K := K) rfl hr.units) (pv 0) (pv 1) (nomark _)))))) (pss_nil)))), ?_⟩
    refine y_ifS ?_
    refine y_or ?_
    refine y_tB ?_
    refine y_cb ?_
    refine y_cons ?_
    refine y_var rfl ?_
    refine y_cons (y_c (y_nil ?_))
    refine y_isiP (D.mo d_due_ z.le) hw.1 (by decide +kernel) ?_
    replace hw := (run_gd hw).2
    refine ⟨_, rfl, ?_⟩
    refine w_orJ hw (fun (s : Bool) (v : Bool) (H2 : Hp) => ∃ (Ho2 : Hp), Same Ho Ho2 ∧ Zs amb H2 Ho2 ∧ v = s) (fun hb hw => ?_) (fun hb hw => ?_) ?_
    · exact (run_ret hw) _ _ ⟨_, (Same.refl _), z, rfl⟩
    · refine y_tB ?_
      refine y_cb ?_
      refine y_cons ?_
      refine y_var rfl ?_
      refine y_cons (y_c (y_nil ?_))
      refine y_isiP (D.mo d_due_ z.le) hw.1 (by decide +kernel) ?_
      replace hw := (run_gd hw).2
      refine ⟨_, rfl, ?_⟩
      exact (run_ret hw) _ _ ⟨_, (Same.refl _), z, rfl⟩
    rintro t1 v H ⟨Ho, e, z, rfl⟩ hw
    replace d_due_ := D.mo d_due_ e
    replace d_found_ := D.mo d_found_ e
    have es4 := (Same.refl _).trans e
    refine y_cases hw (fun hb hw => ?_) (fun hb hw => ?_)
    · refine y_ifS ?_
      refine y_or ?_
      refine y_test ?_
      refine y_op ?_
      refine y_cb ?_
      refine y_cons ?_
      refine y_var rfl ?_
      refine y_cons (y_c (y_nil ?_))
      refine y_isiP (D.mo d_found_ z.le) hw.1 (by decide +kernel) ?_
      replace hw := (run_gd hw).2
      refine y_cb ?_
      refine y_cons ?_
      refine y_var rfl ?_
      refine y_cons (y_c (y_nil ?_))
      refine y_isiP (D.mo d_due_ z.le) hw.1 (by decide +kernel) ?_
      replace hw := (run_gd hw).2
      refine y_neb ?_
      refine ⟨_, rfl, ?_⟩
      refine w_orJ hw (fun (s : Bool) (v : Bool) (H2 : Hp) => ∃ (Ho2 : Hp), Same Ho Ho2 ∧ Zs amb H2 Ho2 ∧ v = s) (fun hb hw => ?_) (fun hb hw => ?_) ?_
      · exact (run_ret hw) _ _ ⟨_, (Same.refl _), z, rfl⟩
      · refine y_test ?_
        refine y_op ?_
        refine y_cb ?_
        refine y_cons ?_
        refine y_var rfl ?_
        refine y_cons (y_c (y_nil ?_))
        refine y_isiP (D.mo d_found_ z.le) hw.1 (by decide +kernel) ?_
        replace hw := (run_gd hw).2
        refine y_cb ?_
        refine y_cons ?_
        refine y_var rfl ?_
        refine y_cons (y_c (y_nil ?_))
        refine y_isiP (D.mo d_due_ z.le) hw.1 (by decide +kernel) ?_
        replace hw := (run_gd hw).2
        refine y_neb ?_
        refine ⟨_, rfl, ?_⟩
        exact (run_ret hw) _ _ ⟨_, (Same.refl _), z, rfl⟩
      rintro t5 v H ⟨Ho, e, z, rfl⟩ hw
      replace d_due_ := D.mo d_due_ e
      replace d_found_ := D.mo d_found_ e
      have es8 := es4.trans e
      refine y_cases hw (fun hb hw => ?_) (fun hb hw => ?_)
      · refine y_ret ?_
        refine y_c ?_
        exact (run_ret hw) _ _ _ es8 z (Dq.bl _)
      · refine y_nxS ?_
        refine y_ifS ?_
        refine y_test ?_
        refine y_op ?_
        refine y_cb ?_
        refine y_cons ?_
        refine y_var rfl ?_
        refine y_nil ?_
        refine y_lenP d_found_ z hw (fun t9 hw => ?_)
        refine y_cb ?_
        refine y_cons ?_
        refine y_var rfl ?_
        refine y_nil ?_
        refine y_lenP d_due_ z hw (fun t10 hw => ?_)
        refine y_nei ?_
        refine ⟨_, rfl, ?_⟩
        refine y_cases hw (fun hb hw => ?_) (fun hb hw => ?_)
        · refine y_ret ?_
          refine y_c ?_
          exact (run_ret hw) _ _ _ es8 z (Dq.bl _)
        · refine y_nxS ?_
          refine y_ret ?_
          refine y_cb ?_
          refine y_cons ?_
          refine y_lc ?_
          refine k_iZipA ?_
          refine y_cons ?_
          refine y_var rfl ?_
          refine y_cons ?_
          refine y_var rfl ?_
          refine y_nil ?_
          refine k_srcZA d_found_ d_due_ z hw (fun J t11 T hw => ?_)
          refine y_lcG z mgN T hw (fun r12 a x H Ho N N' e z dx hw => ?_) (fun t23 H Ho e hw p20 ws21 z d22 => ?_)
          · replace z : Zs ([r12] ++ amb) H Ho := z
            replace d_due_ := D.mo d_due_ e
            replace d_found_ := D.mo d_found_ e
            have es13 := es8.trans e
            obtain ⟨mine_, other_⟩ := a
            refine c_gt2 (fun v_mine_ v_other_ => [some v_found_, some v_due_, some v_mine_, some v_other_]) (fun _ _ => rfl) dx z (fun v_mine_ v_other_ d_mine_ d_other_ => ?_)
            refine ⟨rfl, ?_⟩
            refine y_yes (w_t ?_)
            replace hw := run_itT (run_bret hw) rfl
            refine y_call ?_
            refine y_cons ?_
            refine y_var rfl ?_
            refine y_cons ?_
            refine y_var rfl ?_
            refine y_nil ?_
            refine ⟨[], _, _, _, _, _, rfl, z.all, (D.mo d_mine_ z.le), (D.mo d_other_ z.le), ?_⟩
            refine run_mono3 hw (fun t14 hw v H Ho19 e17 z18 d15 => ?_)
            replace z := z.unlend e17 z18
            obtain rfl := d_bool d15
            exact (run_ret hw) _ _ _ (Same.refl _) z (Dq.bl _)
          replace d_due_ := D.mo d_due_ e
          replace d_found_ := D.mo d_found_ e
          have es24 := es8.trans e
          replace z : Zs ([(p20, HO.lst ws21)] ++ amb) H Ho := z
          have o25 := OL.mk (p := p20) d22
          refine y_nil ?_
          refine y_all (OL.lv o25 mg0) z ?_
          replace z : Zs amb _ _ := z.go [[(p20, HO.lst ws21)]] amb []
          exact (run_ret hw) _ _ _ es24 z (Dq.bl _)
    · refine y_nxS ?_
      refine y_ifS ?_
      refine y_test ?_
      refine y_op ?_
      refine y_var rfl ?_
      refine y_c ?_
      refine ⟨rfl, ?_⟩
      rw [dec_nonP d_due_]
      refine ⟨_, rfl, ?_⟩
      refine y_cases hw (fun hb hw => ?_) (fun hb hw => ?_)
      · refine y_ret ?_
        refine y_op ?_
        refine y_var rfl ?_
        refine y_c ?_
        refine ⟨rfl, ?_⟩
        rw [dec_nonP d_found_]
        exact (run_ret hw) _ _ _ es4 z (Dq.bl _)
      · refine y_nxS ?_
        refine y_ifS ?_
        refine y_or ?_
        refine y_tB ?_
        refine y_cb ?_
        refine y_cons ?_
        refine y_var rfl ?_
        refine y_cons (y_c (y_nil ?_))
        refine y_isiP (D.mo d_due_ z.le) hw.1 (by decide +kernel) ?_
        replace hw := (run_gd hw).2
        refine ⟨_, rfl, ?_⟩
        refine w_orJ hw (fun (s : Bool) (v : Bool) (H2 : Hp) => ∃ (Ho2 : Hp), Same Ho Ho2 ∧ Zs amb H2 Ho2 ∧ v = s) (fun hb hw => ?_) (fun hb hw => ?_) ?_
        · exact (run_ret hw) _ _ ⟨_, (Same.refl _), z, rfl⟩
        · refine y_tB ?_
          refine y_cb ?_
          refine y_cons ?_
          refine y_var rfl ?_
          refine y_cons (y_c (y_nil ?_))
          refine y_isiP (D.mo d_due_ z.le) hw.1 (by decide +kernel) ?_
          replace hw := (run_gd hw).2
          refine ⟨_, rfl, ?_⟩
          exact (run_ret hw) _ _ ⟨_, (Same.refl _), z, rfl⟩
        rintro t26 v H ⟨Ho, e, z, rfl⟩ hw
        replace d_due_ := D.mo d_due_ e
        replace d_found_ := D.mo d_found_ e
        have es29 := es4.trans e
        refine y_cases hw (fun hb hw => ?_) (fun hb hw => ?_)
        · refine y_ret ?_
          refine y_andV ?_
          refine y_op ?_
          refine y_cb ?_
          refine y_cons ?_
          refine y_var rfl ?_
          refine y_cons (y_c (y_nil ?_))
          refine y_isiP (D.mo d_found_ z.le) hw.1 (by decide +kernel) ?_
          replace hw := (run_gd hw).2
          refine y_cb ?_
          refine y_cons ?_
          refine y_var rfl ?_
          refine y_cons (y_c (y_nil ?_))
          refine y_isiP (D.mo d_due_ z.le) hw.1 (by decide +kernel) ?_
          replace hw := (run_gd hw).2
          refine y_eqb ?_
          refine ⟨_, rfl, ?_⟩
          refine w_andVJ hw (fun (s : Bool) (v : V) (H2 : Hp) => ∃ (Ho2 : Hp), Same Ho Ho2 ∧ Zs amb H2 Ho2 ∧ v = V.bl s) (fun hb hw => ?_) (fun hb hw => ?_) ?_
          · refine y_op ?_
            refine y_var rfl ?_
            refine y_var rfl ?_
            refine y_eqD (D.mo d_found_ z.le) (D.mo d_due_ z.le) hw.1 ?_
            replace hw := (run_gd hw).2
            exact (run_ret hw) _ _ ⟨_, (Same.refl _), z, rfl⟩
          · exact (run_ret hw) _ _ ⟨_, (Same.refl _), z, rfl⟩
          rintro t30 v H ⟨Ho, e, z, rfl⟩ hw
          replace d_due_ := D.mo d_due_ e
          replace d_found_ := D.mo d_found_ e
          have es33 := es29.trans e
          exact (run_ret hw) _ _ _ es33 z (Dq.bl _)
        · refine y_nxS ?_
          refine y_ret ?_
          refine y_andV ?_
          refine y_cb ?_
          refine y_cons ?_
          refine y_var rfl ?_
          refine y_cons (y_c (y_nil ?_))
          refine y_isiP (D.mo d_found_ z.le) hw.1 (by decide +kernel) ?_
          replace hw := (run_gd hw).2
          refine ⟨_, rfl, ?_⟩
          refine w_andVJ hw (fun (s : Bool) (v : V) (H2 : Hp) => ∃ (Ho2 : Hp), Same Ho Ho2 ∧ Zs amb H2 Ho2 ∧ v = V.bl s) (fun hb hw => ?_) (fun hb hw => ?_) ?_
          · refine y_andV ?_
            refine y_notV ?_
            refine y_cb ?_
            refine y_cons ?_
            refine y_var rfl ?_
            refine y_cons (y_c (y_nil ?_))
            refine y_isiP (D.mo d_found_ z.le) hw.1 (by decide +kernel) ?_
            replace hw := (run_gd hw).2
            refine ⟨_, rfl, ?_⟩
            refine ⟨_, rfl, ?_⟩
            refine w_andVJ hw (fun (s : Bool) (v : V) (H2 : Hp) => ∃ (Ho2 : Hp), Same Ho Ho2 ∧ Zs amb H2 Ho2 ∧ v = V.bl s) (fun hb hw => ?_) (fun hb hw => ?_) ?_
            · refine y_op ?_
              refine y_var rfl ?_
              refine y_var rfl ?_
              refine y_eqD (D.mo d_found_ z.le) (D.mo d_due_ z.le) hw.1 ?_
              replace hw := (run_gd hw).2
              exact (run_ret hw) _ _ ⟨_, (Same.refl _), z, rfl⟩
            · exact (run_ret hw) _ _ ⟨_, (Same.refl _), z, rfl⟩
            rintro t34 v H ⟨Ho, e, z, rfl⟩ hw
            replace d_due_ := D.mo d_due_ e
            replace d_found_ := D.mo d_found_ e
            have es37 := (Same.refl _).trans e
            exact (run_ret hw) _ _ ⟨_, es37, z, rfl⟩
          · exact (run_ret hw) _ _ ⟨_, (Same.refl _), z, rfl⟩
          rintro t38 v H ⟨Ho, e, z, rfl⟩ hw
          replace d_due_ := D.mo d_due_ e
          replace d_found_ := D.mo d_found_ e
          have es41 := es29.trans e
          exact (run_ret hw) _ _ _ es41 z (Dq.bl _)
abbrev sp_law_alike (K : PySem.W.Frag) (cl : Nat → Addr) : Sp := sp_law_alike_R 7 K cl
theorem ok_law_alike {f : Addr} {fd : FuncData} (F : Fun K "_law_alike" "_law_alike" s_law_alike f fd) (g : mg "_law_alike" = some (.ref f)) (kp : PySem.W.keepIn K (.ref f) = true) (b : Binds K fd ["found", "due"] []) (m_isinstance : mg "isinstance" = none) (m_tuple : mg "tuple" = none) (m_list : mg "list" = none) (m_len : mg "len" = none) (m_zip : mg "zip" = none) (m_all : mg "all" = none) (m_bool : mg "bool" = none) (m_str : mg "str" = none) (m_int : mg "int" = none) :
    FnOk P w K mg base CX0 8 f fd ["found", "due"] (sp_law_alike K cl) := by
  have key : ∀ n, FnOk P w K mg base CX0 (1 + n) f fd ["found", "due"] (sp_law_alike_R n K cl) := fun n => by
    induction n with
    | zero => exact ⟨fun vs H Q E h => by obtain ⟨amb, Ho, v_found_, found_, v_due_, due_, rfl, z, d_found_, d_due_, hw⟩ := h; exact (show False from hw).elim, fun A outer s H args us vs Q E hr he hb hv h => by obtain ⟨amb, Ho, v_found_, found_, v_due_, due_, rfl, z, d_found_, d_due_, hw⟩ := h; exact (show False from hw).elim⟩
    | succ n ih => exact ok_law_alike_S F ⟨ih, g, kp, b⟩ m_isinstance m_tuple m_list m_len m_zip m_all m_bool m_str m_int
  exact key 7
def sp_law_plain (K : PySem.W.Frag) (cl : Nat → Addr) : Sp := fun vs H Q E => ∃ (amb : Grp) (Ho : Hp) (v0 : V) (x0 : (H4 (List Int) (List Int) Int Int)) (g0 : Grp), vs = [v0] ∧ Zs (g0 ++ amb) H Ho ∧ OH K Ho v0 x0 g0 ∧ (m_law_plain x0).run fun r => ∀ v h0 H' Ho', Same Ho Ho' → Zs (h0 ++ amb) H' Ho' → Z.D K Ho' v r.1 → OH K Ho' v0 r.2 h0 → Q v H'
abbrev s_law_plain : Stmt := topS 30
theorem sc_law_plain : FnScope ["reel", "kind"] ["reel"] (defScope s_law_plain) := ⟨rfl, rfl, rfl, by decide +kernel, rfl, by decide +kernel, by decide +kernel⟩
theorem ok_law_plain {f : Addr} {fd : FuncData} (F : Fun K "_law_plain" "_law_plain" s_law_plain f fd) {f_law_draw : Addr} {fd_law_draw : FuncData} (c_law_draw : Cal P w K mg base CX0 "_law_draw" ["reel", "many"] 1 (sp_law_draw K cl) f_law_draw fd_law_draw) :
    FnOk P w K mg base CX0 2 f fd ["reel"] (sp_law_plain K cl) := by
  refine F.ok sc_law_plain (fun vs H Q E h => ?_) (fun cdv A outer s H vs Q E hr h => ?_)
  · obtain ⟨amb, Ho, v_reel_, reel_, g_reel_, rfl, _⟩ := h
    rfl
  · obtain ⟨amb, Ho, v_reel_, reel_, g_reel_, rfl, z, d_reel_, hw⟩ := h
    refine ⟨_, pss_cons (ps_set (i := 1) sc_law_plain.nd rfl (Or.inl rfl) (pe_call c_law_draw.ok (hr.mono (by decide)) (by rfl) c_law_draw.g c_law_draw.kp c_law_draw.b .nil pass0 (pa_cons (pv 0) (pa_cons (pe_int) (pa_nil))))) (pss_cons (ps_if (pt_cmpR (op_eq) (pv 1) (pe_int) (nomark _)) (pss_cons (ps_ret (pe_tup (pa_cons (pe_str) (pa_cons (pe_ix ix_str (pe_str) (pe_call c_law_draw.ok (hr.mono (by decide)) (by rfl) c_law_draw.g c_law_draw.kp c_law_draw.b .nil pass0 (pa_cons (pv 0) (pa_cons (pe_int) (pa_nil)))) (fun _ _ => rfl)) (pa_nil))))) (pss_nil)) (pss_nil)) (pss_cons (ps_ret (pe_tup (pa_cons (pe_str) (pa_cons (pe_call c_law_draw.ok (hr.mono (by decide)) (by rfl) c_law_draw.g c_law_draw.kp c_law_draw.b .nil pass0 (pa_cons (pv 0) (pa_cons (pe_ix (zix_list (K := K) rfl) (pe_lst (pa_cons (pe_int) (pa_cons (pe_int) (pa_cons (pe_int) (pa_nil))))) (pv 1) (fun _ _ => rfl)) (pa_nil)))) (pa_nil))))) (pss_nil))), ?_⟩
    refine l_asg (fun v => [_, some v]) (fun _ => rfl) ?_
    refine y_call ?_
    refine y_cons ?_
    refine y_var rfl ?_
    refine y_cons ?_
    refine y_c ?_
    refine y_nil ?_
    refine ⟨amb, _, _, _, _, _, _, rfl, z, d_reel_, (Dq.int _), ?_⟩
    refine run_mono2 hw (fun t1 reel_ hw v g_reel_ H Ho e z d2 d_reel_ => ?_)
    replace d2 : Z.D K Ho v t1 := d2
    replace d_reel_ : OH K Ho v_reel_ reel_ g_reel_ := d_reel_
    have es4 := (Same.refl _).trans e
    obtain rfl := d_int d2
    refine l_i hw (fun kind_ hw => ?_)
    refine y_ifS ?_
    refine y_test ?_
    refine y_op ?_
    refine y_var rfl ?_
    refine y_c ?_
    refine y_eqi ?_
    refine ⟨_, rfl, ?_⟩
    refine y_cases hw (fun hb hw => ?_) (fun hb hw => ?_)
    · refine y_ret ?_
      refine k_tup ?_
      refine y_cons ?_
      refine y_c ?_
      refine y_cons ?_
      refine y_op ?_
      refine y_c ?_
      refine y_call ?_
      refine y_cons ?_
      refine y_var rfl ?_
      refine y_cons ?_
      refine y_c ?_
      refine y_nil ?_
      refine ⟨amb, _, _, _, _, _, _, rfl, z, d_reel_, (Dq.int _), ?_⟩
      refine run_mono2 hw (fun t5 reel_ hw v g_reel_ H Ho e z d6 d_reel_ => ?_)
      replace d6 : Z.D K Ho v t5 := d6
      replace d_reel_ : OH K Ho v_reel_ reel_ g_reel_ := d_reel_
      have es8 := es4.trans e
      obtain rfl := d_int d6
      refine y_ixStr hw (fun t9 hw => ?_)
      refine y_nil ?_
      refine k_tupk (K := K) (x := (("box" : Str), t9)) z (by show 2 ≤ sizeLine; decide) _ rfl (DqAll.cons (Dq.str _) (DqAll.cons (Dq.str _) DqAll.nil)) (fun p H Ho e z d10 => ?_)
      replace d_reel_ := OH.mo d_reel_ e
      have es11 := es8.trans e
      have d12 := (show Z.D K Ho _ (toPy (("box" : Str), t9)) from d10)
      exact (run_ret hw) _ _ _ _ es11 z d12 d_reel_
    · refine y_nxS ?_
      refine y_ret ?_
      refine k_tup ?_
      refine y_cons ?_
      refine y_c ?_
      refine y_cons ?_
      refine y_call ?_
      refine y_cons ?_
      refine y_var rfl ?_
      refine y_cons ?_
      refine y_op ?_
      refine k_lst ?_
      refine y_cons ?_
      refine y_c ?_
      refine y_cons ?_
      refine y_c ?_
      refine y_cons ?_
      refine y_c ?_
      refine y_nil ?_
      refine k_lstk (K := K) (xs := ([(0 : Int), (1000 : Int), (12 : Int)] : (List Int))) z (DqAll.cons (Dq.int _) (DqAll.cons (Dq.int _) (DqAll.cons (Dq.int _) DqAll.nil))) (by show 3 ≤ sizeLine; decide) (fun H p13 ws14 z d15 => ?_)
      replace z : Zs ([(p13, HO.lst ws14)] ++ (g_reel_ ++ amb)) H Ho := z
      have o16 := OL.mk (p := p13) d15
      refine y_var rfl ?_
      refine y_ixL (OL.lv o16 mg0) z hw (fun t17 w d18 hw => ?_)
      obtain rfl := d_int d18
      refine y_nil ?_
      replace z : Zs (g_reel_ ++ ([(p13, HO.lst ws14)] ++ amb)) _ _ := z.go [[(p13, HO.lst ws14)], g_reel_] amb [1, 0]
      refine ⟨([(p13, HO.lst ws14)] ++ amb), _, _, _, _, _, _, rfl, z, d_reel_, (Dq.int _), ?_⟩
      refine run_mono2 hw (fun t19 reel_ hw v g_reel_ H Ho e z d20 d_reel_ => ?_)
      replace d20 : Z.D K Ho v t19 := d20
      replace d_reel_ : OH K Ho v_reel_ reel_ g_reel_ := d_reel_
      have es22 := es4.trans e
      obtain rfl := d_int d20
      refine y_nil ?_
      refine k_tupk (K := K) (x := (("number" : Str), t19)) z (by show 2 ≤ sizeLine; decide) _ rfl (DqAll.cons (Dq.str _) (DqAll.cons (Dq.int _) DqAll.nil)) (fun p H Ho e z d23 => ?_)
      replace d_reel_ := OH.mo d_reel_ e
      have es24 := es22.trans e
      have d25 := (show Z.D K Ho _ (toPy (("number" : Str), t19)) from d23)
      replace z : Zs (g_reel_ ++ amb) _ _ := z.go [g_reel_, [(p13, HO.lst ws14)]] amb [0]
      exact (run_ret hw) _ _ _ _ es24 z d25 d_reel_
def sp_law_worth (K : PySem.W.Frag) (cl : Nat → Addr) : Sp := fun vs H Q E => ∃ (amb : Grp) (Ho : Hp) (v0 : V) (x0 : (H4 (List Int) (List Int) Int Int)) (g0 : Grp), vs = [v0] ∧ Zs (g0 ++ amb) H Ho ∧ OH K Ho v0 x0 g0 ∧ (m_law_worth x0).run fun r => ∀ v h0 H' Ho', Same Ho Ho' → Zs (h0 ++ amb) H' Ho' → Z.D K Ho' v r.1 → OH K Ho' v0 r.2 h0 → Q v H'
abbrev s_law_worth : Stmt := topS 31
theorem sc_law_worth : FnScope ["reel", "kind", "one"] ["reel"] (defScope s_law_worth) := ⟨rfl, rfl, rfl, by decide +kernel, rfl, by decide +kernel, by decide +kernel⟩
theorem ok_law_worth {f : Addr} {fd : FuncData} (F : Fun K "_law_worth" "_law_worth" s_law_worth f fd) {f_law_draw : Addr} {fd_law_draw : FuncData} (c_law_draw : Cal P w K mg base CX0 "_law_draw" ["reel", "many"] 1 (sp_law_draw K cl) f_law_draw fd_law_draw) {f_law_plain : Addr} {fd_law_plain : FuncData} (c_law_plain : Cal P w K mg base CX0 "_law_plain" ["reel"] 2 (sp_law_plain K cl) f_law_plain fd_law_plain) :
    FnOk P w K mg base CX0 3 f fd ["reel"] (sp_law_worth K cl) := by
  refine F.ok sc_law_worth (fun vs H Q E h => ?_) (fun cdv A outer s H vs Q E hr h => ?_)
  · obtain ⟨amb, Ho, v_reel_, reel_, g_reel_, rfl, _⟩ := h
    rfl
  · obtain ⟨amb, Ho, v_reel_, reel_, g_reel_, rfl, z, d_reel_, hw⟩ := h
    refine ⟨_, pss_cons (ps_set (i := 1) sc_law_worth.nd rfl (Or.inl rfl) (pe_call c_law_draw.ok (hr.mono (by decide)) (by rfl) c_law_draw.g c_law_draw.kp c_law_draw.b .nil pass0 (pa_cons (pv 0) (pa_cons (pe_int) (pa_nil))))) (pss_cons (ps_set (i := 2) sc_law_worth.nd rfl (Or.inl rfl) (pe_call c_law_plain.ok (hr.mono (by decide)) (by rfl) c_law_plain.g c_law_plain.kp c_law_plain.b .nil pass0 (pa_cons (pv 0) (pa_nil)))) (pss_cons (ps_if (pt_cmpR (op_lt) (pv 1) (pe_int) (nomark _)) (pss_cons (ps_ret (pv 2)) (pss_nil)) (pss_nil)) (pss_cons (ps_ret (pe_tup (pa_cons (pe_ix (zix_list (K := K) rfl) (pe_lst (pa_cons (pe_str) (pa_cons (pe_str) (pa_nil)))) (pe_op op_sub (pv 1) (pe_int)) (fun _ _ => rfl)) (pa_cons (pv 2) (pa_cons (pe_call c_law_plain.ok (hr.mono (by decide)) (by rfl) c_law_plain.g c_law_plain.kp c_law_plain.b .nil pass0 (pa_cons (pv 0) (pa_nil))) (pa_nil)))))) (pss_nil)))), ?_⟩
    refine l_asg (fun v => [_, some v, _]) (fun _ => rfl) ?_
    refine y_call ?_
    refine y_cons ?_
    refine y_var rfl ?_
    refine y_cons ?_
    refine y_c ?_
    refine y_nil ?_
    refine ⟨amb, _, _, _, _, _, _, rfl, z, d_reel_, (Dq.int _), ?_⟩
    refine run_mono2 hw (fun t1 reel_ hw v g_reel_ H Ho e z d2 d_reel_ => ?_)
    replace d2 : Z.D K Ho v t1 := d2
    replace d_reel_ : OH K Ho v_reel_ reel_ g_reel_ := d_reel_
    have es4 := (Same.refl _).trans e
    obtain rfl := d_int d2
    refine l_i hw (fun kind_ hw => ?_)
    refine l_asg (fun v => [_, _, some v]) (fun _ => rfl) ?_
    refine y_call ?_
    refine y_cons ?_
    refine y_var rfl ?_
    refine y_nil ?_
    refine ⟨amb, _, _, _, _, rfl, z, d_reel_, ?_⟩
    refine run_mono2 hw (fun t5 reel_ hw v g_reel_ H Ho e z d6 d_reel_ => ?_)
    replace d6 : Z.D K Ho v t5 := d6
    replace d_reel_ : OH K Ho v_reel_ reel_ g_reel_ := d_reel_
    have es8 := es4.trans e
    refine l_d (K := K) (Ho := Ho) hw d6 (fun one_ v_one_ d_one_ hw => ?_)
    refine y_ifS ?_
    refine y_test ?_
    refine y_op ?_
    refine y_var rfl ?_
    refine y_c ?_
    refine y_i0 ?_
    refine ⟨_, rfl, ?_⟩
    refine y_cases hw (fun hb hw => ?_) (fun hb hw => ?_)
    · refine y_ret ?_
      refine y_var rfl ?_
      exact (run_ret hw) _ _ _ _ es8 z d_one_ d_reel_
    · refine y_nxS ?_
      refine y_ret ?_
      refine k_tup ?_
      refine y_cons ?_
      refine y_op ?_
      refine k_lst ?_
      refine y_cons ?_
      refine y_c ?_
      refine y_cons ?_
      refine y_c ?_
      refine y_nil ?_
      refine k_lstk (K := K) (xs := ([("plus" : Str), ("minus" : Str)] : (List Str))) z (DqAll.cons (Dq.str _) (DqAll.cons (Dq.str _) DqAll.nil)) (by show 2 ≤ sizeLine; decide) (fun H p9 ws10 z d11 => ?_)
      replace z : Zs ([(p9, HO.lst ws10)] ++ (g_reel_ ++ amb)) H Ho := z
      have o12 := OL.mk (p := p9) d11
      refine y_op ?_
      refine y_var rfl ?_
      refine y_c ?_
      refine y_i0 ?_
      refine y_ixL (OL.lv o12 mg0) z hw (fun t13 w d14 hw => ?_)
      obtain rfl := d_str d14
      refine y_cons ?_
      refine y_var rfl ?_
      refine y_cons ?_
      refine y_call ?_
      refine y_cons ?_
      refine y_var rfl ?_
      refine y_nil ?_
      replace z : Zs (g_reel_ ++ ([(p9, HO.lst ws10)] ++ amb)) _ _ := z.go [[(p9, HO.lst ws10)], g_reel_] amb [1, 0]
      refine ⟨([(p9, HO.lst ws10)] ++ amb), _, _, _, _, rfl, z, d_reel_, ?_⟩
      refine run_mono2 hw (fun t15 reel_ hw v g_reel_ H Ho e z d16 d_reel_ => ?_)
      replace d16 : Z.D K Ho v t15 := d16
      replace d_reel_ : OH K Ho v_reel_ reel_ g_reel_ := d_reel_
      replace d_one_ := D.mo d_one_ e
      have es18 := es8.trans e
      refine y_nil ?_
      refine k_tupk (K := K) (x := (⟨t13, one_, t15⟩ : (P3 Str PyData PyData))) z (by show 3 ≤ sizeLine; decide) _ rfl (DqAll.cons (Dq.str _) (DqAll.cons d_one_ (DqAll.cons d16 DqAll.nil))) (fun p H Ho e z d19 => ?_)
      replace d_one_ := D.mo d_one_ e
      replace d_reel_ := OH.mo d_reel_ e
      have es20 := es18.trans e
      have d21 := (show Z.D K Ho _ (toPy (⟨t13, one_, t15⟩ : (P3 Str PyData PyData))) from d19)
      replace z : Zs (g_reel_ ++ amb) _ _ := z.go [g_reel_, [(p9, HO.lst ws10)]] amb [0]
      exact (run_ret hw) _ _ _ _ es20 z d21 d_reel_
def sp_law_row (K : PySem.W.Frag) (cl : Nat → Addr) : Sp := fun vs H Q E => ∃ (amb : Grp) (Ho : Hp) (v0 : V) (x0 : (H4 (List Int) (List Int) Int Int)) (g0 : Grp) (v1 : V) (x1 : Int) (v2 : V) (x2 : Int), vs = [v0, v1, v2] ∧ Zs (g0 ++ amb) H Ho ∧ OH K Ho v0 x0 g0 ∧ Z.D K Ho v1 x1 ∧ Z.D K Ho v2 x2 ∧ (m_law_row x0 x1 x2).run fun r => ∀ v h0 H' Ho', Same Ho Ho' → Zs (h0 ++ amb) H' Ho' → Z.D K Ho' v r.1 → OH K Ho' v0 r.2 h0 → Q v H'
abbrev s_law_row : Stmt := topS 32
theorem sc_law_row : FnScope ["reel", "many", "size", "kind", "box", "cell", "to"] ["reel", "many", "size"] (defScope s_law_row) := ⟨rfl, rfl, rfl, by decide +kernel, rfl, by decide +kernel, by decide +kernel⟩
theorem ok_law_row {f : Addr} {fd : FuncData} (F : Fun K "_law_row" "_law_row" s_law_row f fd) {f_law_draw : Addr} {fd_law_draw : FuncData} (c_law_draw : Cal P w K mg base CX0 "_law_draw" ["reel", "many"] 1 (sp_law_draw K cl) f_law_draw fd_law_draw) {f_law_worth : Addr} {fd_law_worth : FuncData} (c_law_worth : Cal P w K mg base CX0 "_law_worth" ["reel"] 3 (sp_law_worth K cl) f_law_worth fd_law_worth) :
    FnOk P w K mg base CX0 4 f fd ["reel", "many", "size"] (sp_law_row K cl) := by
  refine F.ok sc_law_row (fun vs H Q E h => ?_) (fun cdv A outer s H vs Q E hr h => ?_)
  · obtain ⟨amb, Ho, v_reel_, reel_, g_reel_, v_many_, many_, v_size_, size_, rfl, _⟩ := h
    rfl
  · obtain ⟨amb, Ho, v_reel_, reel_, g_reel_, v_many_, many_, v_size_, size_, rfl, z, d_reel_, d_many_, d_size_, hw⟩ := h
    refine ⟨_, pss_cons (ps_set (i := 3) sc_law_row.nd rfl (Or.inl rfl) (pe_call c_law_draw.ok (hr.mono (by decide)) (by rfl) c_law_draw.g c_law_draw.kp c_law_draw.b .nil pass0 (pa_cons (pv 0) (pa_cons (pe_int) (pa_nil))))) (pss_cons (ps_set (i := 4) sc_law_row.nd rfl (Or.inl rfl) (pe_ix ix_str (pe_str) (pe_call c_law_draw.ok (hr.mono (by decide)) (by rfl) c_law_draw.g c_law_draw.kp c_law_draw.b .nil pass0 (pa_cons (pv 0) (pa_cons (pe_int) (pa_nil)))) (fun _ _ => rfl))) (pss_cons (ps_set (i := 5) sc_law_row.nd rfl (Or.inl rfl) (pe_call c_law_draw.ok (hr.mono (by decide)) (by rfl) c_law_draw.g c_law_draw.kp c_law_draw.b .nil pass0 (pa_cons (pv 0) (pa_cons (pv 1) (pa_nil))))) (pss_cons (ps_set (i := 6) sc_law_row.nd rfl (Or.inl rfl) (pe_call c_law_draw.ok (hr.mono (by decide)) (by rfl) c_law_draw.g c_law_draw.kp c_law_draw.b .nil pass0 (pa_cons (pv 0) (pa_cons (pe_op op_add (pv 2) (pe_int)) (pa_nil))))) (pss_cons (ps_if (pt_cmpR (op_eq) (pv 3) (pe_int) (nomark _)) (pss_cons (ps_ret (pe_tup (pa_cons (pe_str) (pa_cons (pv 4) (pa_cons (pv 5) (pa_nil)))))) (pss_nil)) (pss_nil)) (pss_cons (ps_if (pt_cmpR (op_eq) (pv 3) (pe_int) (nomark _)) (pss_cons (ps_ret (pe_tup (pa_cons (pe_str) (pa_cons (pv 5) (pa_cons (pe_call c_law_worth.ok (hr.mono (by decide)) (by rfl) c_law_worth.g c_law_worth.kp c_law_worth.b .nil pass0 (pa_cons (pv 0) (pa_nil))) (pa_nil)))))) (pss_nil)) (pss_nil)) (pss_cons (ps_if (pt_cmpR (op_eq) (pv 3) (pe_int) (nomark _)) (pss_cons (ps_ret (pe_tup (pa_cons (pe_str) (pa_cons (pv 4) (pa_cons (pv 5) (pa_cons (pe_call c_law_worth.ok (hr.mono (by decide)) (by rfl) c_law_worth.g c_law_worth.kp c_law_worth.b .nil pass0 (pa_cons (pv 0) (pa_nil))) (pa_nil))))))) (pss_nil)) (pss_nil)) (pss_cons (ps_if (pt_cmpR (op_eq) (pv 3) (pe_int) (nomark _)) (pss_cons (ps_ret (pe_tup (pa_cons (pe_str) (pa_cons (pv 4) (pa_cons (pe_call c_law_worth.ok (hr.mono (by decide)) (by rfl) c_law_worth.g c_law_worth.kp c_law_worth.b .nil pass0 (pa_cons (pv 0) (pa_nil))) (pa_nil)))))) (pss_nil)) (pss_nil)) (pss_cons (ps_if (pt_cmpR (op_eq) (pv 3) (pe_int) (nomark _)) (pss_cons (ps_ret (pe_tup (pa_cons (pe_str) (pa_cons (pe_call c_law_worth.ok (hr.mono (by decide)) (by rfl) c_law_worth.g c_law_worth.kp c_law_worth.b .nil pass0 (pa_cons (pv 0) (pa_nil))) (pa_nil))))) (pss_nil)) (pss_nil)) (pss_cons (ps_if (pt_cmpR (op_eq) (pv 3) (pe_int) (nomark _)) (pss_cons (ps_ret (pe_tup (pa_cons (pe_str) (pa_cons (pv 6) (pa_nil))))) (pss_nil)) (pss_nil)) (pss_cons (ps_ret (pe_tup (pa_cons (pe_str) (pa_cons (pe_ix ix_str (pe_str) (pe_op op_sub (pv 3) (pe_int)) (fun _ _ => rfl)) (pa_cons (pe_call c_law_worth.ok (hr.mono (by decide)) (by rfl) c_law_worth.g c_law_worth.kp c_law_worth.b .nil pass0 (pa_cons (pv 0) (pa_nil))) (pa_cons (pe_call c_law_worth.ok (hr.mono (by decide)) (by rfl) c_law_worth.g c_law_worth.kp c_law_worth.b .nil pass0 (pa_cons (pv 0) (pa_nil))) (pa_cons (pv 6) (pa_nil)))))))) (pss_nil))))))))))), ?_⟩
    obtain rfl := d_int d_many_
    obtain rfl := d_int d_size_
    refine l_asg (fun v => [_, _, _, some v, _, _, _]) (fun _ => rfl) ?_
    refine y_call ?_
    refine y_cons ?_
    refine y_var rfl ?_
    refine y_cons ?_
    refine y_c ?_
    refine y_nil ?_
    refine ⟨amb, _, _, _, _, _, _, rfl, z, d_reel_, (Dq.int _), ?_⟩
    refine run_mono2 hw (fun t1 reel_ hw v g_reel_ H Ho e z d2 d_reel_ => ?_)
    replace d2 : Z.D K Ho v t1 := d2
    replace d_reel_ : OH K Ho v_reel_ reel_ g_reel_ := d_reel_
    have es4 := (Same.refl _).trans e
    obtain rfl := d_int d2
    refine l_i hw (fun kind_ hw => ?_)
    refine l_asg (fun v => [_, _, _, _, some v, _, _]) (fun _ => rfl) ?_
    refine y_op ?_
    refine y_c ?_
    refine y_call ?_
    refine y_cons ?_
    refine y_var rfl ?_
    refine y_cons ?_
    refine y_c ?_
    refine y_nil ?_
    refine ⟨amb, _, _, _, _, _, _, rfl, z, d_reel_, (Dq.int _), ?_⟩
    refine run_mono2 hw (fun t5 reel_ hw v g_reel_ H Ho e z d6 d_reel_ => ?_)
    replace d6 : Z.D K Ho v t5 := d6
    replace d_reel_ : OH K Ho v_reel_ reel_ g_reel_ := d_reel_
    have es8 := es4.trans e
    obtain rfl := d_int d6
    refine y_ixStr hw (fun t9 hw => ?_)
    refine l_s hw (fun box_ hw => ?_)
    refine l_asg (fun v => [_, _, _, _, _, some v, _]) (fun _ => rfl) ?_
    refine y_call ?_
    refine y_cons ?_
    refine y_var rfl ?_
    refine y_cons ?_
    refine y_var rfl ?_
    refine y_nil ?_
    refine ⟨amb, _, _, _, _, _, _, rfl, z, d_reel_, (Dq.int _), ?_⟩
    refine run_mono2 hw (fun t10 reel_ hw v g_reel_ H Ho e z d11 d_reel_ => ?_)
    replace d11 : Z.D K Ho v t10 := d11
    replace d_reel_ : OH K Ho v_reel_ reel_ g_reel_ := d_reel_
    have es13 := es8.trans e
    obtain rfl := d_int d11
    refine l_i hw (fun cell_ hw => ?_)
    refine l_asg (fun v => [_, _, _, _, _, _, some v]) (fun _ => rfl) ?_
    refine y_call ?_
    refine y_cons ?_
    refine y_var rfl ?_
    refine y_cons ?_
    refine y_op ?_
    refine y_var rfl ?_
    refine y_c ?_
    refine y_i0 ?_
    refine y_nil ?_
    refine ⟨amb, _, _, _, _, _, _, rfl, z, d_reel_, (Dq.int _), ?_⟩
    refine run_mono2 hw (fun t14 reel_ hw v g_reel_ H Ho e z d15 d_reel_ => ?_)
    replace d15 : Z.D K Ho v t14 := d15
    replace d_reel_ : OH K Ho v_reel_ reel_ g_reel_ := d_reel_
    have es17 := es13.trans e
    obtain rfl := d_int d15
    refine l_i hw (fun to_ hw => ?_)
    refine y_ifS ?_
    refine y_test ?_
    refine y_op ?_
    refine y_var rfl ?_
    refine y_c ?_
    refine y_eqi ?_
    refine ⟨_, rfl, ?_⟩
    refine y_cases hw (fun hb hw => ?_) (fun hb hw => ?_)
    · refine y_ret ?_
      refine k_tup ?_
      refine y_cons ?_
      refine y_c ?_
      refine y_cons ?_
      refine y_var rfl ?_
      refine y_cons ?_
      refine y_var rfl ?_
      refine y_nil ?_
      refine k_tupk (K := K) (x := (⟨("load" : Str), box_, cell_⟩ : (P3 Str Str Int))) z (by show 3 ≤ sizeLine; decide) _ rfl (DqAll.cons (Dq.str _) (DqAll.cons (Dq.str _) (DqAll.cons (Dq.int _) DqAll.nil))) (fun p H Ho e z d18 => ?_)
      replace d_reel_ := OH.mo d_reel_ e
      have es19 := es17.trans e
      have d20 := (show Z.D K Ho _ (toPy (⟨("load" : Str), box_, cell_⟩ : (P3 Str Str Int))) from d18)
      exact (run_ret hw) _ _ _ _ es19 z d20 d_reel_
    · refine y_nxS ?_
      refine y_ifS ?_
      refine y_test ?_
      refine y_op ?_
      refine y_var rfl ?_
      refine y_c ?_
      refine y_eqi ?_
      refine ⟨_, rfl, ?_⟩
      refine y_cases hw (fun hb hw => ?_) (fun hb hw => ?_)
      · refine y_ret ?_
        refine k_tup ?_
        refine y_cons ?_
        refine y_c ?_
        refine y_cons ?_
        refine y_var rfl ?_
        refine y_cons ?_
        refine y_call ?_
        refine y_cons ?_
        refine y_var rfl ?_
        refine y_nil ?_
        refine ⟨amb, _, _, _, _, rfl, z, d_reel_, ?_⟩
        refine run_mono2 hw (fun t21 reel_ hw v g_reel_ H Ho e z d22 d_reel_ => ?_)
        replace d22 : Z.D K Ho v t21 := d22
        replace d_reel_ : OH K Ho v_reel_ reel_ g_reel_ := d_reel_
        have es24 := es17.trans e
        refine y_nil ?_
        refine k_tupk (K := K) (x := (⟨("store" : Str), cell_, t21⟩ : (P3 Str Int PyData))) z (by show 3 ≤ sizeLine; decide) _ rfl (DqAll.cons (Dq.str _) (DqAll.cons (Dq.int _) (DqAll.cons d22 DqAll.nil))) (fun p H Ho e z d25 => ?_)
        replace d_reel_ := OH.mo d_reel_ e
        have es26 := es24.trans e
        have d27 := (show Z.D K Ho _ (toPy (⟨("store" : Str), cell_, t21⟩ : (P3 Str Int PyData))) from d25)
        exact (run_ret hw) _ _ _ _ es26 z d27 d_reel_
      · refine y_nxS ?_
        refine y_ifS ?_
        refine y_test ?_
        refine y_op ?_
        refine y_var rfl ?_
        refine y_c ?_
        refine y_eqi ?_
        refine ⟨_, rfl, ?_⟩
        refine y_cases hw (fun hb hw => ?_) (fun hb hw => ?_)
        · refine y_ret ?_
          refine k_tup ?_
          refine y_cons ?_
          refine y_c ?_
          refine y_cons ?_
          refine y_var rfl ?_
          refine y_cons ?_
          refine y_var rfl ?_
          refine y_cons ?_
          refine y_call ?_
          refine y_cons ?_
          refine y_var rfl ?_
          refine y_nil ?_
          refine ⟨amb, _, _, _, _, rfl, z, d_reel_, ?_⟩
          refine run_mono2 hw (fun t28 reel_ hw v g_reel_ H Ho e z d29 d_reel_ => ?_)
          replace d29 : Z.D K Ho v t28 := d29
          replace d_reel_ : OH K Ho v_reel_ reel_ g_reel_ := d_reel_
          have es31 := es17.trans e
          refine y_nil ?_
          refine k_tupk (K := K) (x := (⟨("swap" : Str), box_, cell_, t28⟩ : (P4 Str Str Int PyData))) z (by show 4 ≤ sizeLine; decide) _ rfl (DqAll.cons (Dq.str _) (DqAll.cons (Dq.str _) (DqAll.cons (Dq.int _) (DqAll.cons d29 DqAll.nil)))) (fun p H Ho e z d32 => ?_)
          replace d_reel_ := OH.mo d_reel_ e
          have es33 := es31.trans e
          have d34 := (show Z.D K Ho _ (toPy (⟨("swap" : Str), box_, cell_, t28⟩ : (P4 Str Str Int PyData))) from d32)
          exact (run_ret hw) _ _ _ _ es33 z d34 d_reel_
        · refine y_nxS ?_
          refine y_ifS ?_
          refine y_test ?_
          refine y_op ?_
          refine y_var rfl ?_
          refine y_c ?_
          refine y_eqi ?_
          refine ⟨_, rfl, ?_⟩
          refine y_cases hw (fun hb hw => ?_) (fun hb hw => ?_)
          · refine y_ret ?_
            refine k_tup ?_
            refine y_cons ?_
            refine y_c ?_
            refine y_cons ?_
            refine y_var rfl ?_
            refine y_cons ?_
            refine y_call ?_
            refine y_cons ?_
            refine y_var rfl ?_
            refine y_nil ?_
            refine ⟨amb, _, _, _, _, rfl, z, d_reel_, ?_⟩
            refine run_mono2 hw (fun t35 reel_ hw v g_reel_ H Ho e z d36 d_reel_ => ?_)
            replace d36 : Z.D K Ho v t35 := d36
            replace d_reel_ : OH K Ho v_reel_ reel_ g_reel_ := d_reel_
            have es38 := es17.trans e
            refine y_nil ?_
            refine k_tupk (K := K) (x := (⟨("let" : Str), box_, t35⟩ : (P3 Str Str PyData))) z (by show 3 ≤ sizeLine; decide) _ rfl (DqAll.cons (Dq.str _) (DqAll.cons (Dq.str _) (DqAll.cons d36 DqAll.nil))) (fun p H Ho e z d39 => ?_)
            replace d_reel_ := OH.mo d_reel_ e
            have es40 := es38.trans e
            have d41 := (show Z.D K Ho _ (toPy (⟨("let" : Str), box_, t35⟩ : (P3 Str Str PyData))) from d39)
            exact (run_ret hw) _ _ _ _ es40 z d41 d_reel_
          · refine y_nxS ?_
            refine y_ifS ?_
            refine y_test ?_
            refine y_op ?_
            refine y_var rfl ?_
            refine y_c ?_
            refine y_eqi ?_
            refine ⟨_, rfl, ?_⟩
            refine y_cases hw (fun hb hw => ?_) (fun hb hw => ?_)
            · refine y_ret ?_
              refine k_tup ?_
              refine y_cons ?_
              refine y_c ?_
              refine y_cons ?_
              refine y_call ?_
              refine y_cons ?_
              refine y_var rfl ?_
              refine y_nil ?_
              refine ⟨amb, _, _, _, _, rfl, z, d_reel_, ?_⟩
              refine run_mono2 hw (fun t42 reel_ hw v g_reel_ H Ho e z d43 d_reel_ => ?_)
              replace d43 : Z.D K Ho v t42 := d43
              replace d_reel_ : OH K Ho v_reel_ reel_ g_reel_ := d_reel_
              have es45 := es17.trans e
              refine y_nil ?_
              refine k_tupk (K := K) (x := (("say" : Str), t42)) z (by show 2 ≤ sizeLine; decide) _ rfl (DqAll.cons (Dq.str _) (DqAll.cons d43 DqAll.nil)) (fun p H Ho e z d46 => ?_)
              replace d_reel_ := OH.mo d_reel_ e
              have es47 := es45.trans e
              have d48 := (show Z.D K Ho _ (toPy (("say" : Str), t42)) from d46)
              exact (run_ret hw) _ _ _ _ es47 z d48 d_reel_
            · refine y_nxS ?_
              refine y_ifS ?_
              refine y_test ?_
              refine y_op ?_
              refine y_var rfl ?_
              refine y_c ?_
              refine y_eqi ?_
              refine ⟨_, rfl, ?_⟩
              refine y_cases hw (fun hb hw => ?_) (fun hb hw => ?_)
              · refine y_ret ?_
                refine k_tup ?_
                refine y_cons ?_
                refine y_c ?_
                refine y_cons ?_
                refine y_var rfl ?_
                refine y_nil ?_
                refine k_tupk (K := K) (x := (("go" : Str), to_)) z (by show 2 ≤ sizeLine; decide) _ rfl (DqAll.cons (Dq.str _) (DqAll.cons (Dq.int _) DqAll.nil)) (fun p H Ho e z d49 => ?_)
                replace d_reel_ := OH.mo d_reel_ e
                have es50 := es17.trans e
                have d51 := (show Z.D K Ho _ (toPy (("go" : Str), to_)) from d49)
                exact (run_ret hw) _ _ _ _ es50 z d51 d_reel_
              · refine y_nxS ?_
                refine y_ret ?_
                refine k_tup ?_
                refine y_cons ?_
                refine y_c ?_
                refine y_cons ?_
                refine y_op ?_
                refine y_c ?_
                refine y_op ?_
                refine y_var rfl ?_
                refine y_c ?_
                refine y_i0 ?_
                refine y_ixStr hw (fun t52 hw => ?_)
                refine y_cons ?_
                refine y_call ?_
                refine y_cons ?_
                refine y_var rfl ?_
                refine y_nil ?_
                refine ⟨amb, _, _, _, _, rfl, z, d_reel_, ?_⟩
                refine run_mono2 hw (fun t53 reel_ hw v g_reel_ H Ho e z d54 d_reel_ => ?_)
                replace d54 : Z.D K Ho v t53 := d54
                replace d_reel_ : OH K Ho v_reel_ reel_ g_reel_ := d_reel_
                have es56 := es17.trans e
                refine y_cons ?_
                refine y_call ?_
                refine y_cons ?_
                refine y_var rfl ?_
                refine y_nil ?_
                refine ⟨amb, _, _, _, _, rfl, z, d_reel_, ?_⟩
                refine run_mono2 hw (fun t57 reel_ hw v g_reel_ H Ho e z d58 d_reel_ => ?_)
                replace d58 : Z.D K Ho v t57 := d58
                replace d_reel_ : OH K Ho v_reel_ reel_ g_reel_ := d_reel_
                replace d54 := D.mo d54 e
                have es60 := es56.trans e
                refine y_cons ?_
                refine y_var rfl ?_
                refine y_nil ?_
                refine k_tupk (K := K) (x := (⟨("unless" : Str), t52, t53, t57, to_⟩ : (P5 Str Str PyData PyData Int))) z (by show 5 ≤ sizeLine; decide) _ rfl (DqAll.cons (Dq.str _) (DqAll.cons (Dq.str _) (DqAll.cons d54 (DqAll.cons d58 (DqAll.cons (Dq.int _) DqAll.nil))))) (fun p H Ho e z d61 => ?_)
                replace d_reel_ := OH.mo d_reel_ e
                have es62 := es60.trans e
                have d63 := (show Z.D K Ho _ (toPy (⟨("unless" : Str), t52, t53, t57, to_⟩ : (P5 Str Str PyData PyData Int))) from d61)
                exact (run_ret hw) _ _ _ _ es62 z d63 d_reel_
def sp_law_program (K : PySem.W.Frag) (cl : Nat → Addr) : Sp := fun vs H Q E => ∃ (amb : Grp) (Ho : Hp) (v0 : V) (x0 : (H4 (List Int) (List Int) Int Int)) (g0 : Grp), vs = [v0] ∧ Zs (g0 ++ amb) H Ho ∧ OH K Ho v0 x0 g0 ∧ (m_law_program x0).run fun r => ∀ v g h0 H' Ho', Same Ho Ho' → Zs (g ++ (h0 ++ amb)) H' Ho' → OM (OLo OL) K Ho' v r.1 g → OH K Ho' v0 r.2 h0 → Q v H'
abbrev s_law_program : Stmt := topS 33
theorem sc_law_program : FnScope ["reel", "great", "many", "hands", "k", "size", "at"] ["reel"] (defScope s_law_program) := ⟨rfl, rfl, rfl, by decide +kernel, rfl, by decide +kernel, by decide +kernel⟩
theorem ok_law_program {f : Addr} {fd : FuncData} (F : Fun K "_law_program" "_law_program" s_law_program f fd) {f_law_draw : Addr} {fd_law_draw : FuncData} (c_law_draw : Cal P w K mg base CX0 "_law_draw" ["reel", "many"] 1 (sp_law_draw K cl) f_law_draw fd_law_draw) {f_law_row : Addr} {fd_law_row : FuncData} (c_law_row : Cal P w K mg base CX0 "_law_row" ["reel", "many", "size"] 4 (sp_law_row K cl) f_law_row fd_law_row) (m_int : mg "int" = none) (m_range : mg "range" = none) :
    FnOk P w K mg base CX0 5 f fd ["reel"] (sp_law_program K cl) := by
  refine F.ok sc_law_program (fun vs H Q E h => ?_) (fun cdv A outer s H vs Q E hr h => ?_)
  · obtain ⟨amb, Ho, v_reel_, reel_, g_reel_, rfl, _⟩ := h
    rfl
  · obtain ⟨amb, Ho, v_reel_, reel_, g_reel_, rfl, z, d_reel_, hw⟩ := h
    refine ⟨_, pss_cons (ps_set (i := 1) sc_law_program.nd rfl (Or.inl rfl) (pe_call c_law_draw.ok (hr.mono (by decide)) (by rfl) c_law_draw.g c_law_draw.kp c_law_draw.b .nil pass0 (pa_cons (pv 0) (pa_cons (pe_int) (pa_nil))))) (pss_cons (ps_set (i := 2) sc_law_program.nd rfl (Or.inr rfl) (pe_op op_add (pe_int) (pe_call c_law_draw.ok (hr.mono (by decide)) (by rfl) c_law_draw.g c_law_draw.kp c_law_draw.b .nil pass0 (pa_cons (pv 0) (pa_cons (pe_int) (pa_nil)))))) (pss_cons (ps_set (i := 3) sc_law_program.nd rfl (Or.inl rfl) (pe_lst pa_nil)) (pss_cons (ps_for PassesOwn.never rfl (pi_range1 (by rfl) m_range (pa_cons (pe_op op_add (pe_int) (pe_call c_law_draw.ok (hr.mono (by decide)) (by rfl) c_law_draw.g c_law_draw.kp c_law_draw.b .nil pass0 (pa_cons (pv 0) (pa_cons (pe_ix (zix_list (K := K) rfl) (pe_lst (pa_cons (pe_int) (pa_cons (pe_int) (pa_nil)))) (pe_callTy call_int1 (by rfl) m_int (by decide +kernel) (pa_cons (pe_cmpR (op_gt) (pv 1) (pe_int) (nomark _)) (pa_nil))) (fun _ _ => rfl)) (pa_nil))))) (pa_nil))) (pg_name (i := 4) sc_law_program.nd rfl (Or.inl rfl)) (pss_cons (ps_set (i := 5) sc_law_program.nd rfl (Or.inr rfl) (pe_call c_law_draw.ok (hr.mono (by decide)) (by rfl) c_law_draw.g c_law_draw.kp c_law_draw.b .nil pass0 (pa_cons (pv 0) (pa_cons (pe_ix (zix_list (K := K) rfl) (pe_lst (pa_cons (pe_int) (pa_cons (pe_int) (pa_nil)))) (pe_callTy call_int1 (by rfl) m_int (by decide +kernel) (pa_cons (pe_cmpR (op_eq) (pv 1) (pe_int) (nomark _)) (pa_nil))) (fun _ _ => rfl)) (pa_nil))))) (pss_cons (ps_expr (pe_bm PySem.F.plainAttrs_list PySem.F.slot_list_append PySem.F.type_list_append mt_append (pv 3) (pa_cons (pe_lc (own := [("at", 6)]) rfl sc_law_program.nd (pi_range1 (by rfl) m_range (pa_cons (pv 5) (pa_nil))) (blkOk_by (N := ["reel", "great", "many", "hands", "k", "size", "at"]) (sc := defScope s_law_program) (by decide +kernel)) (fun _ _ _ _ _ => pg_name (i := 6) sc_law_program.nd rfl (Or.inl rfl)) (fun _ _ _ _ _ => pts_nil) (fun _ _ _ _ _ => pe_call c_law_row.ok (hr.mono (by decide)) (by rfl) c_law_row.g c_law_row.kp c_law_row.b .nil pass0 (pa_cons (pv 0) (pa_cons (pv 2) (pa_cons (pv 5) (pa_nil)))))) (pa_nil)))) (pss_nil)))) (pss_cons (ps_ret (pe_tup (pa_cons (pv 2) (pa_cons (pv 3) (pa_nil))))) (pss_nil))))), ?_⟩
    refine l_asg (fun v => [_, some v, _, _, _, _, _]) (fun _ => rfl) ?_
    refine y_call ?_
    refine y_cons ?_
    refine y_var rfl ?_
    refine y_cons ?_
    refine y_c ?_
    refine y_nil ?_
    refine ⟨amb, _, _, _, _, _, _, rfl, z, d_reel_, (Dq.int _), ?_⟩
    refine run_mono2 hw (fun t1 reel_ hw v g_reel_ H Ho e z d2 d_reel_ => ?_)
    replace d2 : Z.D K Ho v t1 := d2
    replace d_reel_ : OH K Ho v_reel_ reel_ g_reel_ := d_reel_
    have es4 := (Same.refl _).trans e
    obtain rfl := d_int d2
    refine l_i hw (fun great_ hw => ?_)
    refine l_asg (fun v => [_, _, some v, _, _, _, _]) (fun _ => rfl) ?_
    refine y_op ?_
    refine y_c ?_
    refine y_call ?_
    refine y_cons ?_
    refine y_var rfl ?_
    refine y_cons ?_
    refine y_c ?_
    refine y_nil ?_
    refine ⟨amb, _, _, _, _, _, _, rfl, z, d_reel_, (Dq.int _), ?_⟩
    refine run_mono2 hw (fun t5 reel_ hw v g_reel_ H Ho e z d6 d_reel_ => ?_)
    replace d6 : Z.D K Ho v t5 := d6
    replace d_reel_ : OH K Ho v_reel_ reel_ g_reel_ := d_reel_
    have es8 := es4.trans e
    obtain rfl := d_int d6
    refine y_i0 ?_
    refine l_i hw (fun many_ hw => ?_)
    refine l_asg (fun v => [_, _, _, some v, _, _, _]) (fun _ => rfl) ?_
    refine k_lst ?_
    refine y_nil ?_
    refine k_lstR (vs := []) z (by show 0 ≤ sizeLine; decide) (fun p9 H z => ?_)
    have o10 : OLo OL K Ho (.ref p9) ([] : (List (List PyData))) [(p9, HO.lst [])] := o_nil
    refine l_oG (P := OLo OL K Ho) hw z o10 (fun hands_ v_hands_ g_hands_ z d_hands_ hw => ?_)
    refine y_for ?_
    refine k_iR1 ?_
    refine y_cons ?_
    refine y_op ?_
    refine y_c ?_
    refine y_call ?_
    refine y_cons ?_
    refine y_var rfl ?_
    refine y_cons ?_
    refine y_op ?_
    refine k_lst ?_
    refine y_cons ?_
    refine y_c ?_
    refine y_cons ?_
    refine y_c ?_
    refine y_nil ?_
    refine k_lstk (K := K) (xs := ([(4 : Int), (8 : Int)] : (List Int))) z (DqAll.cons (Dq.int _) (DqAll.cons (Dq.int _) DqAll.nil)) (by show 2 ≤ sizeLine; decide) (fun H p11 ws12 z d13 => ?_)
    replace z : Zs ([(p11, HO.lst ws12)] ++ (g_hands_ ++ (g_reel_ ++ amb))) H Ho := z
    have o14 := OL.mk (p := p11) d13
    refine y_cb ?_
    refine y_cons ?_
    refine y_op ?_
    refine y_var rfl ?_
    refine y_c ?_
    refine y_i0 ?_
    refine y_nil ?_
    refine Or.inr ⟨_, rfl, ?_⟩
    refine y_ixL (OL.lv o14 mg0) z hw (fun t15 w d16 hw => ?_)
    obtain rfl := d_int d16
    refine y_nil ?_
    replace z : Zs (g_reel_ ++ ([(p11, HO.lst ws12)] ++ (g_hands_ ++ amb))) _ _ := z.go [[(p11, HO.lst ws12)], g_hands_, g_reel_] amb [2, 0, 1]
    refine ⟨([(p11, HO.lst ws12)] ++ (g_hands_ ++ amb)), _, _, _, _, _, _, rfl, z, d_reel_, (Dq.int _), ?_⟩
    refine run_mono2 hw (fun t17 reel_ hw v g_reel_ H Ho e z d18 d_reel_ => ?_)
    replace d18 : Z.D K Ho v t17 := d18
    replace d_reel_ : OH K Ho v_reel_ reel_ g_reel_ := d_reel_
    replace d_hands_ := OLo.mo d_hands_ e
    have es20 := es8.trans e
    obtain rfl := d_int d18
    refine y_i0 ?_
    refine y_nil ?_
    refine k_srcR1 (K := K) (Ho := Ho) hw.1 (fun J T => ?_)
    replace hw := (run_gd hw).2
    refine y_forL T hw (fun (s : (H4 (List Int) (List Int) Int Int) × (List (List PyData))) (σ : L2.St) (H Ho : Hp) => ∃ (g_reel_ : Grp) (g_hands_ : Grp) (y_k_ : Option V) (y_size_ : Option V), σ = [some v_reel_, some (V.int great_), some (V.int many_), some v_hands_, y_k_, y_size_, none] ∧ Zs (g_reel_ ++ ([(p11, HO.lst ws12)] ++ (g_hands_ ++ amb))) H Ho ∧ OH K Ho v_reel_ s.1 g_reel_ ∧ OLo OL K Ho v_hands_ s.2 g_hands_) ⟨_, _, _, _, rfl, z, d_reel_, d_hands_⟩ ?_ ?_ ?_ ?_
    · intro s σ H Ho hI
      obtain ⟨reel_, hands_⟩ := s
      obtain ⟨g_reel_, g_hands_, y_k_, y_size_, rfl, z, d_reel_, d_hands_⟩ := hI
      exact ⟨_, z, mgN⟩
    · intro s σ H Ho H2 Ho2 hI e t
      obtain ⟨reel_, hands_⟩ := s
      obtain ⟨g_reel_, g_hands_, y_k_, y_size_, rfl, z, d_reel_, d_hands_⟩ := hI
      exact ⟨_, _, _, _, rfl, t _ z, OH.mo d_reel_ e, OLo.mo d_hands_ e⟩
    · intro k_ v_k_ s σ H Ho N e hI d_k_ hw
      obtain ⟨reel_, hands_⟩ := s
      obtain ⟨g_reel_, g_hands_, y_k_, y_size_, rfl, z, d_reel_, d_hands_⟩ := hI
      have es21 := es20.trans e
      obtain rfl := d_int d_k_
      refine y_gname (σ' := [some v_reel_, some (V.int great_), some (V.int many_), some v_hands_, some (V.int k_), y_size_, none]) rfl ?_
      refine l_asg (fun v => [_, _, _, _, _, some v, _]) (fun _ => rfl) ?_
      refine y_call ?_
      refine y_cons ?_
      refine y_var rfl ?_
      refine y_cons ?_
      refine y_op ?_
      refine k_lst ?_
      refine y_cons ?_
      refine y_c ?_
      refine y_cons ?_
      refine y_c ?_
      refine y_nil ?_
      refine k_lstk (K := K) (xs := ([(7 : Int), (61 : Int)] : (List Int))) z (DqAll.cons (Dq.int _) (DqAll.cons (Dq.int _) DqAll.nil)) (by show 2 ≤ sizeLine; decide) (fun H p22 ws23 z d24 => ?_)
      replace z : Zs ([(p22, HO.lst ws23)] ++ (g_reel_ ++ ([(p11, HO.lst ws12)] ++ (g_hands_ ++ amb)))) H Ho := z
      have o25 := OL.mk (p := p22) d24
      refine y_cb ?_
      refine y_cons ?_
      refine y_op ?_
      refine y_var rfl ?_
      refine y_c ?_
      refine y_eqi ?_
      refine y_nil ?_
      refine Or.inr ⟨_, rfl, ?_⟩
      refine y_ixL (OL.lv o25 mg0) z hw (fun t26 w d27 hw => ?_)
      obtain rfl := d_int d27
      refine y_nil ?_
      replace z : Zs (g_reel_ ++ ([(p22, HO.lst ws23)] ++ ([(p11, HO.lst ws12)] ++ (g_hands_ ++ amb)))) _ _ := z.go [[(p22, HO.lst ws23)], g_reel_, [(p11, HO.lst ws12)], g_hands_] amb [1, 0, 2, 3]
      refine ⟨([(p22, HO.lst ws23)] ++ ([(p11, HO.lst ws12)] ++ (g_hands_ ++ amb))), _, _, _, _, _, _, rfl, z, d_reel_, (Dq.int _), ?_⟩
      refine run_mono2 hw (fun t28 reel_ hw v g_reel_ H Ho e z d29 d_reel_ => ?_)
      replace d29 : Z.D K Ho v t28 := d29
      replace d_reel_ : OH K Ho v_reel_ reel_ g_reel_ := d_reel_
      replace d_hands_ := OLo.mo d_hands_ e
      have es31 := (Same.refl _).trans e
      obtain rfl := d_int d29
      refine l_i hw (fun size_ hw => ?_)
      replace z : Zs (g_reel_ ++ ([(p11, HO.lst ws12)] ++ (g_hands_ ++ amb))) _ _ := z.go [g_reel_, [(p22, HO.lst ws23)], [(p11, HO.lst ws12)], g_hands_] amb [0, 2, 3]
      refine y_drop ?_
      refine y_bm ?_
      refine y_var rfl ?_
      refine g_tyLo ⟨_, d_hands_, (mgS (mgS mg0))⟩ z ?_
      refine y_cons ?_
      refine y_lc ?_
      refine k_iR1 ?_
      refine y_cons ?_
      refine y_var rfl ?_
      refine y_nil ?_
      refine k_srcR1 (K := K) (Ho := Ho) hw.1 (fun J T => ?_)
      replace hw := (run_gd hw).2
      refine y_lcS z T hw (fun (r32 : Addr × HO) (s : (H4 (List Int) (List Int) Int Int)) (H2 Ho2 : Hp) => ∃ (g_reel_ : Grp), OH K Ho2 v_reel_ s g_reel_ ∧ Zs ([r32] ++ (g_reel_ ++ ([(p11, HO.lst ws12)] ++ (g_hands_ ++ amb)))) H2 Ho2) (fun r H z => ⟨_, d_reel_, z⟩) ?_ ?_ ?_ ?_ ?_
      · rintro r s H Ho ⟨g_reel_, d_reel_, z⟩
        exact ⟨_, z, fun r m => mgN r m⟩
      · rintro r s H Ho H2 Ho2 ⟨g_reel_, d_reel_, z⟩ e t
        exact ⟨_, OH.mo d_reel_ e, t _ z⟩
      · rintro p o o' s H Ho hn ⟨g_reel_, d_reel_, z⟩
        exact ⟨_, d_reel_, Zs.put z hn⟩
      · intro r32 at_ v_at_ reel_ H Ho N N' e hI d_at_ hw
        obtain ⟨g_reel_, d_reel_, z⟩ := hI
        replace d_hands_ := OLo.mo d_hands_ e
        have es33 := es31.trans e
        obtain rfl := d_int d_at_
        refine y_gname (σ' := [some v_reel_, some (V.int great_), some (V.int many_), some v_hands_, some (V.int k_), some (V.int size_), some (V.int at_)]) rfl ?_
        refine ⟨rfl, ?_⟩
        refine y_yes (w_t ?_)
        refine y_call ?_
        refine y_cons ?_
        refine y_var rfl ?_
        refine y_cons ?_
        refine y_var rfl ?_
        refine y_cons ?_
        refine y_var rfl ?_
        refine y_nil ?_
        replace z : Zs (g_reel_ ++ ([r32] ++ ([(p11, HO.lst ws12)] ++ (g_hands_ ++ amb)))) _ _ := z.go [[r32], g_reel_, [(p11, HO.lst ws12)], g_hands_] amb [1, 0, 2, 3]
        refine ⟨([r32] ++ ([(p11, HO.lst ws12)] ++ (g_hands_ ++ amb))), _, _, _, _, _, _, _, _, rfl, z, d_reel_, (Dq.int _), (Dq.int _), ?_⟩
        refine run_mono2 hw (fun t34 reel_ hw v g_reel_ H Ho e z d35 d_reel_ => ?_)
        replace d35 : Z.D K Ho v t34 := d35
        replace d_reel_ : OH K Ho v_reel_ reel_ g_reel_ := d_reel_
        replace d_hands_ := OLo.mo d_hands_ e
        have es37 := (Same.refl _).trans e
        replace z : Zs ([r32] ++ (g_reel_ ++ ([(p11, HO.lst ws12)] ++ (g_hands_ ++ amb)))) _ _ := z.go [g_reel_, [r32], [(p11, HO.lst ws12)], g_hands_] amb [1, 0, 2, 3]
        exact (run_ret hw) _ _ _ es37 ⟨_, d_reel_, z⟩ d35
      rintro t41 reel_ p38 ws39 H Ho e ⟨g_reel_, d_reel_, z⟩ d40 hw
      replace d_hands_ := OLo.mo d_hands_ e
      have es42 := es31.trans e
      replace z : Zs ([(p38, HO.lst ws39)] ++ (g_reel_ ++ ([(p11, HO.lst ws12)] ++ (g_hands_ ++ amb)))) H Ho := z
      have o43 := OL.mk (p := p38) d40
      refine y_nil ?_
      replace z : Zs ([(p38, HO.lst ws39)] ++ (g_hands_ ++ (g_reel_ ++ ([(p11, HO.lst ws12)] ++ amb)))) _ _ := z.go [[(p38, HO.lst ws39)], g_reel_, [(p11, HO.lst ws12)], g_hands_] amb [0, 3, 1, 2]
      refine g_appO z d_hands_ o43 hw (fun hands_ g_hands_ H z d_hands_ hw => ?_)
      replace z : Zs (g_reel_ ++ ([(p11, HO.lst ws12)] ++ (g_hands_ ++ amb))) _ _ := z.go [g_hands_, g_reel_, [(p11, HO.lst ws12)]] amb [1, 2, 0]
      exact (run_ret hw) _ _ _ es42 ⟨_, _, _, _, rfl, z, d_reel_, d_hands_⟩
    intro s σ H Ho e hI hw
    obtain ⟨reel_, hands_⟩ := s
    obtain ⟨g_reel_, g_hands_, y_k_, y_size_, rfl, z, d_reel_, d_hands_⟩ := hI
    have es44 := es20.trans e
    replace z : Zs (g_reel_ ++ (g_hands_ ++ amb)) _ _ := z.go [g_reel_, [(p11, HO.lst ws12)], g_hands_] amb [0, 2]
    refine y_ret ?_
    refine k_tup ?_
    refine y_cons ?_
    refine y_var rfl ?_
    refine y_cons ?_
    refine y_var rfl ?_
    refine y_nil ?_
    refine p_tupk z (fun p46 H Ho e z t45 => ?_)
    replace d_hands_ := OLo.mo d_hands_ e
    replace d_reel_ := OH.mo d_reel_ e
    have es47 := es44.trans e
    replace z : Zs (g_hands_ ++ (g_reel_ ++ amb)) _ _ := z.go [g_reel_, g_hands_] amb [1, 0]
    exact (run_ret hw) _ _ _ _ _ es47 z (OM.mk t45 d_hands_) d_reel_
def sp_law_worth_text (K : PySem.W.Frag) (cl : Nat → Addr) : Sp := fun vs H Q E => ∃ (amb : Grp) (Ho : Hp) (v0 : V) (x0 : PyData), vs = [v0] ∧ Zs amb H Ho ∧ Z.D K Ho v0 x0 ∧ (m_law_worth_text x0).run fun r => ∀ v H' Ho', Same Ho Ho' → Zs amb H' Ho' → Z.D K Ho' v r → Q v H'
abbrev s_law_worth_text : Stmt := topS 34
theorem sc_law_worth_text : FnScope ["told"] ["told"] (defScope s_law_worth_text) := ⟨rfl, rfl, rfl, by decide +kernel, rfl, by decide +kernel, by decide +kernel⟩
theorem ok_law_worth_text {f : Addr} {fd : FuncData} (F : Fun K "_law_worth_text" "_law_worth_text" s_law_worth_text f fd) (m_str : mg "str" = none) :
    FnOk P w K mg base CX0 1 f fd ["told"] (sp_law_worth_text K cl) := by
  refine F.ok sc_law_worth_text (fun vs H Q E h => ?_) (fun cdv A outer s H vs Q E hr h => ?_)
  · obtain ⟨amb, Ho, v_told_, told_, rfl, _⟩ := h
    rfl
  · obtain ⟨amb, Ho, v_told_, told_, rfl, z, d_told_, hw⟩ := h
    refine ⟨_, pss_cons (ps_if (pt_cmpR (zop_eqD (K := K) rfl hr.units) (pe_ix (zix_any (K := K) rfl) (pv 0) (pe_int) (fun _ _ => rfl)) (pe_str) (nomark _)) (pss_cons (ps_ret (pe_op zop_catStr (pe_op zop_catStr (pe_callTy zstrP (by rfl) m_str (by decide +kernel) (pa_cons (pe_ix (zix_any (K := K) rfl) (pe_ix (zix_any (K := K) rfl) (pv 0) (pe_int) (fun _ _ => rfl)) (pe_int) (fun _ _ => rfl)) (pa_nil))) (pe_str)) (pe_callTy zstrP (by rfl) m_str (by decide +kernel) (pa_cons (pe_ix (zix_any (K := K) rfl) (pe_ix (zix_any (K := K) rfl) (pv 0) (pe_int) (fun _ _ => rfl)) (pe_int) (fun _ _ => rfl)) (pa_nil))))) (pss_nil)) (pss_nil)) (pss_cons (ps_if (pt_cmpR (zop_eqD (K := K) rfl hr.units) (pe_ix (zix_any (K := K) rfl) (pv 0) (pe_int) (fun _ _ => rfl)) (pe_str) (nomark _)) (pss_cons (ps_ret (pe_op zop_catStr (pe_op zop_catStr (pe_callTy zstrP (by rfl) m_str (by decide +kernel) (pa_cons (pe_ix (zix_any (K := K) rfl) (pe_ix (zix_any (K := K) rfl) (pv 0) (pe_int) (fun _ _ => rfl)) (pe_int) (fun _ _ => rfl)) (pa_nil))) (pe_str)) (pe_callTy zstrP (by rfl) m_str (by decide +kernel) (pa_cons (pe_ix (zix_any (K := K) rfl) (pe_ix (zix_any (K := K) rfl) (pv 0) (pe_int) (fun _ _ => rfl)) (pe_int) (fun _ _ => rfl)) (pa_nil))))) (pss_nil)) (pss_nil)) (pss_cons (ps_ret (pe_callTy zstrP (by rfl) m_str (by decide +kernel) (pa_cons (pe_ix (zix_any (K := K) rfl) (pv 0) (pe_int) (fun _ _ => rfl)) (pa_nil)))) (pss_nil))), ?_⟩
    refine y_ifS ?_
    refine y_test ?_
    refine y_op ?_
    refine y_op ?_
    refine y_var rfl ?_
    refine y_c ?_
    refine y_ixP d_told_ z hw (fun t1 w d2 hw => ?_)
    refine y_c ?_
    refine y_eqD (D.mo d2 z.le) (Dq.str _) hw.1 ?_
    replace hw := (run_gd hw).2
    refine ⟨_, rfl, ?_⟩
    refine y_cases hw (fun hb hw => ?_) (fun hb hw => ?_)
    · refine y_ret ?_
      refine y_op ?_
      refine y_op ?_
      refine y_cb ?_
      refine y_cons ?_
      refine y_op ?_
      refine y_op ?_
      refine y_var rfl ?_
      refine y_c ?_
      refine y_ixP d_told_ z hw (fun t3 w d4 hw => ?_)
      refine y_c ?_
      refine y_ixP d4 z hw (fun t5 w d6 hw => ?_)
      refine y_nil ?_
      refine y_strP d6 hw (fun t7 hw => ?_)
      refine y_c ?_
      refine y_catStr hw.1 ?_
      replace hw := (run_gd hw).2
      refine y_cb ?_
      refine y_cons ?_
      refine y_op ?_
      refine y_op ?_
      refine y_var rfl ?_
      refine y_c ?_
      refine y_ixP d_told_ z hw (fun t8 w d9 hw => ?_)
      refine y_c ?_
      refine y_ixP d9 z hw (fun t10 w d11 hw => ?_)
      refine y_nil ?_
      refine y_strP d11 hw (fun t12 hw => ?_)
      refine y_catStr hw.1 ?_
      replace hw := (run_gd hw).2
      exact (run_ret hw) _ _ _ (Same.refl _) z (Dq.str _)
    · refine y_nxS ?_
      refine y_ifS ?_
      refine y_test ?_
      refine y_op ?_
      refine y_op ?_
      refine y_var rfl ?_
      refine y_c ?_
      refine y_ixP d_told_ z hw (fun t13 w d14 hw => ?_)
      refine y_c ?_
      refine y_eqD (D.mo d14 z.le) (Dq.str _) hw.1 ?_
      replace hw := (run_gd hw).2
      refine ⟨_, rfl, ?_⟩
      refine y_cases hw (fun hb hw => ?_) (fun hb hw => ?_)
      · refine y_ret ?_
        refine y_op ?_
        refine y_op ?_
        refine y_cb ?_
        refine y_cons ?_
        refine y_op ?_
        refine y_op ?_
        refine y_var rfl ?_
        refine y_c ?_
        refine y_ixP d_told_ z hw (fun t15 w d16 hw => ?_)
        refine y_c ?_
        refine y_ixP d16 z hw (fun t17 w d18 hw => ?_)
        refine y_nil ?_
        refine y_strP d18 hw (fun t19 hw => ?_)
        refine y_c ?_
        refine y_catStr hw.1 ?_
        replace hw := (run_gd hw).2
        refine y_cb ?_
        refine y_cons ?_
        refine y_op ?_
        refine y_op ?_
        refine y_var rfl ?_
        refine y_c ?_
        refine y_ixP d_told_ z hw (fun t20 w d21 hw => ?_)
        refine y_c ?_
        refine y_ixP d21 z hw (fun t22 w d23 hw => ?_)
        refine y_nil ?_
        refine y_strP d23 hw (fun t24 hw => ?_)
        refine y_catStr hw.1 ?_
        replace hw := (run_gd hw).2
        exact (run_ret hw) _ _ _ (Same.refl _) z (Dq.str _)
      · refine y_nxS ?_
        refine y_ret ?_
        refine y_cb ?_
        refine y_cons ?_
        refine y_op ?_
        refine y_var rfl ?_
        refine y_c ?_
        refine y_ixP d_told_ z hw (fun t25 w d26 hw => ?_)
        refine y_nil ?_
        refine y_strP d26 hw (fun t27 hw => ?_)
        exact (run_ret hw) _ _ _ (Same.refl _) z (Dq.str _)
def sp_law_row_text (K : PySem.W.Frag) (cl : Nat → Addr) : Sp := fun vs H Q E => ∃ (amb : Grp) (Ho : Hp) (v0 : V) (x0 : PyData), vs = [v0] ∧ Zs amb H Ho ∧ Z.D K Ho v0 x0 ∧ (m_law_row_text x0).run fun r => ∀ v H' Ho', Same Ho Ho' → Zs amb H' Ho' → Z.D K Ho' v r → Q v H'
abbrev s_law_row_text : Stmt := topS 35
theorem sc_law_row_text : FnScope ["row", "words", "part"] ["row"] (defScope s_law_row_text) := ⟨rfl, rfl, rfl, by decide +kernel, rfl, by decide +kernel, by decide +kernel⟩
theorem ok_law_row_text {f : Addr} {fd : FuncData} (F : Fun K "_law_row_text" "_law_row_text" s_law_row_text f fd) {f_law_worth_text : Addr} {fd_law_worth_text : FuncData} (c_law_worth_text : Cal P w K mg base CX0 "_law_worth_text" ["told"] 1 (sp_law_worth_text K cl) f_law_worth_text fd_law_worth_text) (m_str : mg "str" = none) (m_isinstance : mg "isinstance" = none) (m_tuple : mg "tuple" = none) :
    FnOk P w K mg base CX0 2 f fd ["row"] (sp_law_row_text K cl) := by
  refine F.ok sc_law_row_text (fun vs H Q E h => ?_) (fun cdv A outer s H vs Q E hr h => ?_)
  · obtain ⟨amb, Ho, v_row_, row_, rfl, _⟩ := h
    rfl
  · obtain ⟨amb, Ho, v_row_, row_, rfl, z, d_row_, hw⟩ := h
    refine ⟨_, pss_cons (ps_if (pt_cmpR (zop_eqD (K := K) rfl hr.units) (pe_ix (zix_any (K := K) rfl) (pv 0) (pe_int) (fun _ _ => rfl)) (pe_str) (nomark _)) (pss_cons (ps_ret (pe_m1 PySem.F.slot_str_join PySem.F.type_str_join (zmt_join (K := K) rfl) (pe_str) (pe_lst (pa_cons (pe_str) (pa_cons (pe_call c_law_worth_text.ok (hr.mono (by decide)) (by rfl) c_law_worth_text.g c_law_worth_text.kp c_law_worth_text.b .nil pass0 (pa_cons (pe_ix (zix_any (K := K) rfl) (pv 0) (pe_int) (fun _ _ => rfl)) (pa_nil))) (pa_cons (pe_ix (zix_any (K := K) rfl) (pv 0) (pe_int) (fun _ _ => rfl)) (pa_cons (pe_call c_law_worth_text.ok (hr.mono (by decide)) (by rfl) c_law_worth_text.g c_law_worth_text.kp c_law_worth_text.b .nil pass0 (pa_cons (pe_ix (zix_any (K := K) rfl) (pv 0) (pe_int) (fun _ _ => rfl)) (pa_nil))) (pa_cons (pe_str) (pa_cons (pe_callTy zstrP (by rfl) m_str (by decide +kernel) (pa_cons (pe_ix (zix_any (K := K) rfl) (pv 0) (pe_int) (fun _ _ => rfl)) (pa_nil))) (pa_nil)))))))))) (pss_nil)) (pss_nil)) (pss_cons (ps_set (i := 1) sc_law_row_text.nd rfl (Or.inl rfl) (pe_lst (pa_cons (pe_ix (zix_any (K := K) rfl) (pv 0) (pe_int) (fun _ _ => rfl)) (pa_nil)))) (pss_cons (ps_for PassesOwn.never rfl (zpi_tup (K := K) rfl (pe_slice (zsl_tupA (K := K) rfl) (pv 0) (po_some (pe_int)) po_none)) (pg_name (i := 2) sc_law_row_text.nd rfl (Or.inl rfl)) (pss_cons (ps_if (pt_val (pe_callB (zisi (K := K) rfl) (by rfl) m_isinstance (by decide +kernel) (pa_cons (pv 2) (pa_cons (pe_bltn (v := .ty "tuple") (by rfl) m_tuple (by decide +kernel) rfl) pa_nil)))) (pss_cons (ps_expr (pe_bm PySem.F.plainAttrs_list PySem.F.slot_list_append PySem.F.type_list_append mt_append (pv 1) (pa_cons (pe_call c_law_worth_text.ok (hr.mono (by decide)) (by rfl) c_law_worth_text.g c_law_worth_text.kp c_law_worth_text.b .nil pass0 (pa_cons (pv 2) (pa_nil))) (pa_nil)))) (pss_nil)) (pss_cons (ps_expr (pe_bm PySem.F.plainAttrs_list PySem.F.slot_list_append PySem.F.type_list_append mt_append (pv 1) (pa_cons (pe_callTy zstrP (by rfl) m_str (by decide +kernel) (pa_cons (pv 2) (pa_nil))) (pa_nil)))) (pss_nil))) (pss_nil))) (pss_cons (ps_ret (pe_m1 PySem.F.slot_str_join PySem.F.type_str_join (zmt_join (K := K) rfl) (pe_str) (pv 1))) (pss_nil)))), ?_⟩
    refine y_ifS ?_
    refine y_test ?_
    refine y_op ?_
    refine y_op ?_
    refine y_var rfl ?_
    refine y_c ?_
    refine y_ixP d_row_ z hw (fun t1 w d2 hw => ?_)
    refine y_c ?_
    refine y_eqD (D.mo d2 z.le) (Dq.str _) hw.1 ?_
    replace hw := (run_gd hw).2
    refine ⟨_, rfl, ?_⟩
    refine y_cases hw (fun hb hw => ?_) (fun hb hw => ?_)
    · refine y_ret ?_
      refine y_tm1 ?_
      refine y_c ?_
      refine y_tm1s ?_
      refine k_lst ?_
      refine y_cons ?_
      refine y_c ?_
      refine y_cons ?_
      refine y_call ?_
      refine y_cons ?_
      refine y_op ?_
      refine y_var rfl ?_
      refine y_c ?_
      refine y_ixP d_row_ z hw (fun t3 w d4 hw => ?_)
      refine y_nil ?_
      refine ⟨amb, _, _, _, rfl, z, d4, ?_⟩
      refine run_mono3 hw (fun t5 hw v H Ho e z d6 => ?_)
      replace d_row_ := D.mo d_row_ e
      have es8 := (Same.refl _).trans e
      obtain rfl := d_str d6
      refine y_cons ?_
      refine y_op ?_
      refine y_var rfl ?_
      refine y_c ?_
      refine y_ixP d_row_ z hw (fun t9 w d10 hw => ?_)
      refine y_fr (β := Str) d10 hw (fun t11 d12 hw => ?_)
      obtain rfl := d_str d12
      refine y_cons ?_
      refine y_call ?_
      refine y_cons ?_
      refine y_op ?_
      refine y_var rfl ?_
      refine y_c ?_
      refine y_ixP d_row_ z hw (fun t13 w d14 hw => ?_)
      refine y_nil ?_
      refine ⟨amb, _, _, _, rfl, z, d14, ?_⟩
      refine run_mono3 hw (fun t15 hw v H Ho e z d16 => ?_)
      replace d_row_ := D.mo d_row_ e
      have es18 := es8.trans e
      obtain rfl := d_str d16
      refine y_cons ?_
      refine y_c ?_
      refine y_cons ?_
      refine y_cb ?_
      refine y_cons ?_
      refine y_op ?_
      refine y_var rfl ?_
      refine y_c ?_
      refine y_ixP d_row_ z hw (fun t19 w d20 hw => ?_)
      refine y_nil ?_
      refine y_strP d20 hw (fun t21 hw => ?_)
      refine y_nil ?_
      refine k_lstk (K := K) (xs := ([("unless" : Str), t5, t11, t15, ("go" : Str), t21] : (List Str))) z (DqAll.cons (Dq.str _) (DqAll.cons (Dq.str _) (DqAll.cons (Dq.str _) (DqAll.cons (Dq.str _) (DqAll.cons (Dq.str _) (DqAll.cons (Dq.str _) DqAll.nil)))))) (by show 6 ≤ sizeLine; decide) (fun H p22 ws23 z d24 => ?_)
      replace z : Zs ([(p22, HO.lst ws23)] ++ amb) H Ho := z
      have o25 := OL.mk (p := p22) d24
      refine y_sjoin (OL.lv o25 mg0) z hw.1 ?_
      replace hw := (run_gd hw).2
      replace z : Zs amb _ _ := z.go [[(p22, HO.lst ws23)]] amb []
      exact (run_ret hw) _ _ _ es18 z (Dq.str _)
    · refine y_nxS ?_
      refine l_asg (fun v => [_, some v, _]) (fun _ => rfl) ?_
      refine k_lst ?_
      refine y_cons ?_
      refine y_op ?_
      refine y_var rfl ?_
      refine y_c ?_
      refine y_ixP d_row_ z hw (fun t26 w d27 hw => ?_)
      refine y_fr (β := Str) d27 hw (fun t28 d29 hw => ?_)
      obtain rfl := d_str d29
      refine y_nil ?_
      refine k_lstk (K := K) (xs := ([t28] : (List Str))) z (DqAll.cons (Dq.str _) DqAll.nil) (by show 1 ≤ sizeLine; decide) (fun H p30 ws31 z d32 => ?_)
      replace z : Zs ([(p30, HO.lst ws31)] ++ amb) H Ho := z
      have o33 := OL.mk (p := p30) d32
      refine l_o hw z o33 (fun words_ v_words_ g_words_ z d_words_ hw => ?_)
      refine y_for ?_
      refine k_iTup ?_
      refine y_sl ?_
      refine y_var rfl ?_
      refine y_part ?_
      refine y_c ?_
      refine ⟨_, rfl, ?_⟩
      refine y_noPart ?_
      refine y_fr (β := (Tp PyData)) d_row_ hw (fun t34 d35 hw => ?_)
      refine y_slTp d35 z (fun w H Ho e z d36 => ?_)
      replace d_row_ := D.mo d_row_ e
      replace d_words_ := OL.mo d_words_ e
      have es37 := (Same.refl _).trans e
      refine k_srcT (xs := (⟨Z.cut t34.l (some (1 : Int)) none⟩ : (Tp PyData)).l) d36 rfl z (fun J T => ?_)
      refine y_forL T hw (fun (s : (List Str)) (σ : L2.St) (H Ho : Hp) => ∃ (g_words_ : Grp) (y_part_ : Option V), σ = [some v_row_, some v_words_, y_part_] ∧ Zs (g_words_ ++ amb) H Ho ∧ OL K Ho v_words_ s g_words_) ⟨_, _, rfl, z, d_words_⟩ ?_ ?_ ?_ ?_
      · intro s σ H Ho hI
        obtain ⟨g_words_, y_part_, rfl, z, d_words_⟩ := hI
        exact ⟨_, z, mgN⟩
      · intro s σ H Ho H2 Ho2 hI e t
        obtain ⟨g_words_, y_part_, rfl, z, d_words_⟩ := hI
        exact ⟨_, _, rfl, t _ z, OL.mo d_words_ e⟩
      · intro part_ v_part_ s σ H Ho N e hI d_part_ hw
        obtain ⟨words_, rfl⟩ : ∃ q, q = s := ⟨_, rfl⟩
        obtain ⟨g_words_, y_part_, rfl, z, d_words_⟩ := hI
        have es38 := es37.trans e
        refine y_gname (σ' := [some v_row_, some v_words_, some v_part_]) rfl ?_
        refine y_ifS ?_
        refine y_tB ?_
        refine y_cb ?_
        refine y_cons ?_
        refine y_var rfl ?_
        refine y_cons (y_c (y_nil ?_))
        refine y_isiP (D.mo d_part_ z.le) hw.1 (by decide +kernel) ?_
        replace hw := (run_gd hw).2
        refine ⟨_, rfl, ?_⟩
        refine w_ifJ hw (fun (s : (List Str)) (σ : L2.St) (H : Hp) => ∃ Ho2, Same Ho Ho2 ∧ (fun (s : (List Str)) (σ : L2.St) (H Ho : Hp) => ∃ (g_words_ : Grp), σ = [some v_row_, some v_words_, some v_part_] ∧ Zs (g_words_ ++ amb) H Ho ∧ OL K Ho v_words_ s g_words_) s σ H Ho2) (fun hb hw => ?_) (fun hb hw => ?_) ?_
        · refine y_drop ?_
          refine y_bm ?_
          refine y_var rfl ?_
          refine g_tyL (OL.lv d_words_ mg0) z ?_
          refine y_cons ?_
          refine y_call ?_
          refine y_cons ?_
          refine y_var rfl ?_
          refine y_nil ?_
          refine ⟨(g_words_ ++ amb), _, _, _, rfl, z, d_part_, ?_⟩
          refine run_mono3 hw (fun t39 hw v H Ho e z d40 => ?_)
          replace d_part_ := D.mo d_part_ e
          replace d_words_ := OL.mo d_words_ e
          have es42 := (Same.refl _).trans e
          obtain rfl := d_str d40
          refine y_nil ?_
          refine g_app z d_words_ (Dq.str _) hw (fun words_ g_words_ H z d_words_ hw => ?_)
          exact (run_ret hw) _ _ ⟨_, es42, ⟨_, rfl, z, d_words_⟩⟩
        · refine y_drop ?_
          refine y_bm ?_
          refine y_var rfl ?_
          refine g_tyL (OL.lv d_words_ mg0) z ?_
          refine y_cons ?_
          refine y_cb ?_
          refine y_cons ?_
          refine y_var rfl ?_
          refine y_nil ?_
          refine y_strP d_part_ hw (fun t43 hw => ?_)
          refine y_nil ?_
          refine g_app z d_words_ (Dq.str _) hw (fun words_ g_words_ H z d_words_ hw => ?_)
          exact (run_ret hw) _ _ ⟨_, (Same.refl _), ⟨_, rfl, z, d_words_⟩⟩
        rintro words_ σ H ⟨Ho, e, g_words_, rfl, z, d_words_⟩ hw
        replace d_part_ := D.mo d_part_ e
        have es44 := (Same.refl _).trans e
        exact (run_ret hw) _ _ _ es44 ⟨_, _, rfl, z, d_words_⟩
      intro s σ H Ho e hI hw
      obtain ⟨words_, rfl⟩ : ∃ q, q = s := ⟨_, rfl⟩
      obtain ⟨g_words_, y_part_, rfl, z, d_words_⟩ := hI
      have es45 := es37.trans e
      refine y_ret ?_
      refine y_tm1 ?_
      refine y_c ?_
      refine y_tm1s ?_
      refine y_var rfl ?_
      refine y_sjoin (OL.lv d_words_ mg0) z hw.1 ?_
      replace hw := (run_gd hw).2
      replace z : Zs amb _ _ := z.go [g_words_] amb []
      exact (run_ret hw) _ _ _ es45 z (Dq.str _)
def sp_law_text (K : PySem.W.Frag) (cl : Nat → Addr) : Sp := fun vs H Q E => ∃ (amb : Grp) (Ho : Hp) (v0 : V) (x0 : (Int × (List (List PyData)))), vs = [v0] ∧ Zs amb H Ho ∧ Z.D K Ho v0 x0 ∧ (m_law_text x0).run fun r => ∀ v H' Ho', Same Ho Ho' → Zs amb H' Ho' → Z.D K Ho' v r → Q v H'
abbrev s_law_text : Stmt := topS 36
theorem sc_law_text : FnScope ["program", "rows", "hand", "row"] ["program"] (defScope s_law_text) := ⟨rfl, rfl, rfl, by decide +kernel, rfl, by decide +kernel, by decide +kernel⟩
theorem ok_law_text {f : Addr} {fd : FuncData} (F : Fun K "_law_text" "_law_text" s_law_text f fd) {f_law_row_text : Addr} {fd_law_row_text : FuncData} (c_law_row_text : Cal P w K mg base CX0 "_law_row_text" ["row"] 2 (sp_law_row_text K cl) f_law_row_text fd_law_row_text) (m_str : mg "str" = none) :
    FnOk P w K mg base CX0 3 f fd ["program"] (sp_law_text K cl) := by
  refine F.ok sc_law_text (fun vs H Q E h => ?_) (fun cdv A outer s H vs Q E hr h => ?_)
  · obtain ⟨amb, Ho, v_program_, program_, rfl, _⟩ := h
    rfl
  · obtain ⟨amb, Ho, v_program_, program_, rfl, z, d_program_, hw⟩ := h
    refine ⟨_, pss_cons (ps_set (i := 1) sc_law_text.nd rfl (Or.inl rfl) (pe_lst (pa_cons (pe_op zop_catStr (pe_str) (pe_callTy zstrI (by rfl) m_str (by decide +kernel) (pa_cons (pe_ix (zix_tup (K := K) rfl) (pv 0) (pe_int) (fun _ _ => rfl)) (pa_nil)))) (pa_nil)))) (pss_cons (ps_for PassesOwn.never rfl (zpi_list (K := K) rfl (pe_ix (zix_tup (K := K) rfl) (pv 0) (pe_int) (fun _ _ => rfl))) (pg_name (i := 2) sc_law_text.nd rfl (Or.inl rfl)) (pss_cons (ps_set (i := 1) sc_law_text.nd rfl (Or.inl rfl) (pe_op (zop_catS (K := K) rfl) (pe_op (zop_catS (K := K) rfl) (pv 1) (pe_lst (pa_cons (pe_str) (pa_nil)))) (pe_lc (own := [("row", 3)]) rfl sc_law_text.nd (zpi_list (K := K) rfl (pv 2)) (blkOk_by (N := ["program", "rows", "hand", "row"]) (sc := defScope s_law_text) (by decide +kernel)) (fun _ _ _ _ _ => pg_name (i := 3) sc_law_text.nd rfl (Or.inl rfl)) (fun _ _ _ _ _ => pts_nil) (fun _ _ _ _ _ => pe_call c_law_row_text.ok (hr.mono (by decide)) (by rfl) c_law_row_text.g c_law_row_text.kp c_law_row_text.b .nil pass0 (pa_cons (pv 3) (pa_nil)))))) (pss_nil))) (pss_cons (ps_ret (pe_m1 PySem.F.slot_str_join PySem.F.type_str_join (zmt_join (K := K) rfl) (pe_str) (pv 1))) (pss_nil))), ?_⟩
    refine l_asg (fun v => [_, some v, _, _]) (fun _ => rfl) ?_
    refine k_lst ?_
    refine y_cons ?_
    refine y_op ?_
    refine y_c ?_
    refine y_cb ?_
    refine y_cons ?_
    refine y_op ?_
    refine y_var rfl ?_
    refine y_c ?_
    refine y_ixT (y := program_.1) d_program_ z ⟨_, rfl, rfl⟩ (fun w d1 => ?_)
    obtain rfl := d_int d1
    refine y_nil ?_
    refine y_strI hw.1 ?_
    replace hw := (run_gd hw).2
    refine y_catStr hw.1 ?_
    replace hw := (run_gd hw).2
    refine y_nil ?_
    refine k_lstk (K := K) (xs := ([(("cells " : Str) ++ (strI program_.1))] : (List Str))) z (DqAll.cons (Dq.str _) DqAll.nil) (by show 1 ≤ sizeLine; decide) (fun H p2 ws3 z d4 => ?_)
    replace z : Zs ([(p2, HO.lst ws3)] ++ amb) H Ho := z
    have o5 := OL.mk (p := p2) d4
    refine l_fr o5 z (fun Ho e z d6 => ?_)
    replace d_program_ := D.mo d_program_ e
    have es7 := (Same.refl _).trans e
    refine l_d (K := K) (Ho := Ho) hw d6 (fun rows_ v_rows_ d_rows_ hw => ?_)
    refine y_for ?_
    refine k_iList ?_
    refine y_op ?_
    refine y_var rfl ?_
    refine y_c ?_
    refine y_ixT (y := program_.2) d_program_ z ⟨_, rfl, rfl⟩ (fun w d8 => ?_)
    refine k_srcL (r0 := ([] : Grp)) (LV.of d8) mgN z (fun J T => ?_)
    refine y_forL T hw (fun (s : (List Str)) (σ : L2.St) (H Ho : Hp) => ∃ (v_rows_ : V) (y_hand_ : Option V), σ = [some v_program_, some v_rows_, y_hand_, none] ∧ Zs amb H Ho ∧ Z.D K Ho v_rows_ s) ⟨_, _, rfl, z, d_rows_⟩ ?_ ?_ ?_ ?_
    · intro s σ H Ho hI
      obtain ⟨v_rows_, y_hand_, rfl, z, d_rows_⟩ := hI
      exact ⟨_, z, mgN⟩
    · intro s σ H Ho H2 Ho2 hI e t
      obtain ⟨v_rows_, y_hand_, rfl, z, d_rows_⟩ := hI
      exact ⟨_, _, rfl, t _ z, D.mo d_rows_ e⟩
    · intro hand_ v_hand_ s σ H Ho N e hI d_hand_ hw
      obtain ⟨rows_, rfl⟩ : ∃ q, q = s := ⟨_, rfl⟩
      obtain ⟨v_rows_, y_hand_, rfl, z, d_rows_⟩ := hI
      have es9 := es7.trans e
      refine y_gname (σ' := [some v_program_, some v_rows_, some v_hand_, none]) rfl ?_
      refine l_asg (fun v => [_, some v, _, _]) (fun _ => rfl) ?_
      refine y_op ?_
      refine y_op ?_
      refine y_var rfl ?_
      refine k_lst ?_
      refine y_cons ?_
      refine y_c ?_
      refine y_nil ?_
      refine k_lstk (K := K) (xs := ([("hand" : Str)] : (List Str))) z (DqAll.cons (Dq.str _) DqAll.nil) (by show 1 ≤ sizeLine; decide) (fun H p10 ws11 z d12 => ?_)
      replace z : Zs ([(p10, HO.lst ws11)] ++ amb) H Ho := z
      have o13 := OL.mk (p := p10) d12
      refine y_cat (LV.of d_rows_) (OL.lv o13 mg0) z hw.1 (fun H p14 ws15 z d16 => ?_)
      replace hw := (run_gd hw).2
      replace z : Zs ([(p14, HO.lst ws15)] ++ ([(p10, HO.lst ws11)] ++ amb)) H Ho := z
      have o17 := OL.mk (p := p14) d16
      refine y_lc ?_
      refine k_iList ?_
      refine y_var rfl ?_
      refine k_srcL (r0 := ([] : Grp)) (LV.of d_hand_) mgN z (fun J T => ?_)
      refine y_lcG z mgN T hw (fun r18 row_ v_row_ H Ho N N' e z d_row_ hw => ?_) (fun t27 H Ho e hw p24 ws25 z d26 => ?_)
      · replace z : Zs ([r18] ++ ([(p14, HO.lst ws15)] ++ ([(p10, HO.lst ws11)] ++ amb))) H Ho := z
        replace d_hand_ := D.mo d_hand_ e
        replace d_rows_ := D.mo d_rows_ e
        replace o17 := OL.mo o17 e
        have es19 := (Same.refl _).trans e
        refine y_gname (σ' := [some v_program_, some v_rows_, some v_hand_, some v_row_]) rfl ?_
        refine ⟨rfl, ?_⟩
        refine y_yes (w_t ?_)
        replace hw := run_itT (run_bret hw) rfl
        refine y_call ?_
        refine y_cons ?_
        refine y_var rfl ?_
        refine y_nil ?_
        refine ⟨([r18] ++ ([(p14, HO.lst ws15)] ++ ([(p10, HO.lst ws11)] ++ amb))), _, _, _, rfl, z, d_row_, ?_⟩
        refine run_mono3 hw (fun t20 hw v H Ho e z d21 => ?_)
        replace d_hand_ := D.mo d_hand_ e
        replace d_row_ := D.mo d_row_ e
        replace d_rows_ := D.mo d_rows_ e
        replace o17 := OL.mo o17 e
        have es23 := (Same.refl _).trans e
        obtain rfl := d_str d21
        exact (run_ret hw) _ _ _ es23 z (Dq.str _)
      replace d_hand_ := D.mo d_hand_ e
      replace d_rows_ := D.mo d_rows_ e
      replace o17 := OL.mo o17 e
      have es28 := (Same.refl _).trans e
      replace z : Zs ([(p24, HO.lst ws25)] ++ ([(p14, HO.lst ws15)] ++ ([(p10, HO.lst ws11)] ++ amb))) H Ho := z
      have o29 := OL.mk (p := p24) d26
      refine y_cat (OL.lv o17 (mgS mg0)) (OL.lv o29 mg0) z hw.1 (fun H p30 ws31 z d32 => ?_)
      replace hw := (run_gd hw).2
      replace z : Zs ([(p30, HO.lst ws31)] ++ ([(p24, HO.lst ws25)] ++ ([(p14, HO.lst ws15)] ++ ([(p10, HO.lst ws11)] ++ amb)))) H Ho := z
      have o33 := OL.mk (p := p30) d32
      refine l_fr o33 z (fun Ho e z d34 => ?_)
      replace d_hand_ := D.mo d_hand_ e
      replace d_rows_ := D.mo d_rows_ e
      have es35 := es28.trans e
      refine l_d (K := K) (Ho := Ho) hw d34 (fun rows_ v_rows_ d_rows_ hw => ?_)
      replace z : Zs amb _ _ := z.go [[(p24, HO.lst ws25)], [(p14, HO.lst ws15)], [(p10, HO.lst ws11)]] amb []
      exact (run_ret hw) _ _ _ es35 ⟨_, _, rfl, z, d_rows_⟩
    intro s σ H Ho e hI hw
    obtain ⟨rows_, rfl⟩ : ∃ q, q = s := ⟨_, rfl⟩
    obtain ⟨v_rows_, y_hand_, rfl, z, d_rows_⟩ := hI
    have es36 := es7.trans e
    refine y_ret ?_
    refine y_tm1 ?_
    refine y_c ?_
    refine y_tm1s ?_
    refine y_var rfl ?_
    refine y_sjoin (LV.of d_rows_) z hw.1 ?_
    replace hw := (run_gd hw).2
    exact (run_ret hw) _ _ _ es36 z (Dq.str _)
def sp_law (K : PySem.W.Frag) (cl : Nat → Addr) : Sp := fun vs H Q E => ∃ (amb : Grp) (Ho : Hp) (v0 : V) (x0 : (List Int)), vs = [v0] ∧ Zs amb H Ho ∧ LV K amb Ho v0 x0 ∧ (m_law x0).run fun r => ∀ v H' Ho', Same Ho Ho' → Zs amb H' Ho' → Z.D K Ho' v r → Q v H'
abbrev s_law : Stmt := topS 37
theorem sc_law : FnScope ["script", "reel", "k", "twice", "many", "hands", "at", "text", "found", "others"] ["script"] (defScope s_law) := ⟨rfl, rfl, rfl, by decide +kernel, rfl, by decide +kernel, by decide +kernel⟩
theorem ok_law {f : Addr} {fd : FuncData} (F : Fun K "law" "law" s_law f fd) {f_law_reel : Addr} {fd_law_reel : FuncData} (c_law_reel : Cal P w K mg base CX0 "_law_reel" ["script"] 1 (sp_law_reel K cl) f_law_reel fd_law_reel) {f_law_draw : Addr} {fd_law_draw : FuncData} (c_law_draw : Cal P w K mg base CX0 "_law_draw" ["reel", "many"] 1 (sp_law_draw K cl) f_law_draw fd_law_draw) {f_law_program : Addr} {fd_law_program : FuncData} (c_law_program : Cal P w K mg base CX0 "_law_program" ["reel"] 5 (sp_law_program K cl) f_law_program fd_law_program) {f_law_text : Addr} {fd_law_text : FuncData} (c_law_text : Cal P w K mg base CX0 "_law_text" ["program"] 3 (sp_law_text K cl) f_law_text fd_law_text) {f_read : Addr} {fd_read : FuncData} (c_read : Cal P w K mg base CX0 "read" ["text"] 7 (sp_read K cl) f_read fd_read) {f_law_alike : Addr} {fd_law_alike : FuncData} (c_law_alike : Cal P w K mg base CX0 "_law_alike" ["found", "due"] 8 (sp_law_alike K cl) f_law_alike fd_law_alike) (m_len : mg "len" = none) (m_min : mg "min" = none) (m_range : mg "range" = none) (m_list : mg "list" = none) :
    FnOk P w K mg base CX0 9 f fd ["script"] (sp_law K cl) := by
  refine F.ok sc_law (fun vs H Q E h => ?_) (fun cdv A outer s H vs Q E hr h => ?_)
  · obtain ⟨amb, Ho, v_script_, script_, rfl, _⟩ := h
    rfl
  · obtain ⟨amb, Ho, v_script_, script_, rfl, z, d_script_, hw⟩ := h
    refine ⟨_, pss_cons (ps_set (i := 1) sc_law.nd rfl (Or.inl rfl) (pe_call c_law_reel.ok (hr.mono (by decide)) (by rfl) c_law_reel.g c_law_reel.kp c_law_reel.b .nil pass0 (pa_cons (pv 0) (pa_nil)))) (pss_cons (ps_for PassesOwn.never rfl (pi_range1 (by rfl) m_range (pa_cons (pe_op op_add (pe_int) (pe_callB (call_min2 rfl) (by rfl) m_min (by decide +kernel) (pa_cons (pe_op op_fdivW (pe_callB (zlen (K := K) rfl) (by rfl) m_len (by decide +kernel) (pa_cons (pv 0) (pa_nil))) (pe_int)) (pa_cons (pe_int) (pa_nil))))) (pa_nil))) (pg_name (i := 2) sc_law.nd rfl (Or.inl rfl)) (pss_cons (ps_set (i := 3) sc_law.nd rfl (Or.inl rfl) (pe_cmpR (op_eq) (pe_call c_law_draw.ok (hr.mono (by decide)) (by rfl) c_law_draw.g c_law_draw.kp c_law_draw.b .nil pass0 (pa_cons (pv 1) (pa_cons (pe_int) (pa_nil)))) (pe_int) (nomark _))) (pss_cons (ps_asg (pe_call c_law_program.ok (hr.mono (by decide)) (by rfl) c_law_program.g c_law_program.kp c_law_program.b .nil pass0 (pa_cons (pv 1) (pa_nil))) (zpg_tup (K := K) (n := 2) rfl rfl (pgs_cons (pg_name (i := 4) sc_law.nd rfl (Or.inl rfl)) (pgs_cons (pg_name (i := 5) sc_law.nd rfl (Or.inl rfl)) (pgs_nil))))) (pss_cons (ps_set (i := 6) sc_law.nd rfl (Or.inl rfl) (pe_call c_law_draw.ok (hr.mono (by decide)) (by rfl) c_law_draw.g c_law_draw.kp c_law_draw.b .nil pass0 (pa_cons (pv 1) (pa_cons (pe_callB (zlen (K := K) rfl) (by rfl) m_len (by decide +kernel) (pa_cons (pv 5) (pa_nil))) (pa_nil))))) (pss_cons (ps_if (pt_val (pv 3)) (pss_cons (ps_asg (pe_callTy (zlist (K := K) rfl) (by rfl) m_list (by decide +kernel) (pa_cons (pe_ix (zix_list (K := K) rfl) (pv 5) (pv 6) (fun _ _ => rfl)) (pa_nil))) (pg_sub (pv 5) (pe_un un_neg (pe_int)) set_list)) (pss_nil)) (pss_nil)) (pss_cons (ps_set (i := 7) sc_law.nd rfl (Or.inl rfl) (pe_call c_law_text.ok (hr.mono (by decide)) (by rfl) c_law_text.g c_law_text.kp c_law_text.b .nil pass0 (pa_cons (pe_tup (pa_cons (pv 4) (pa_cons (pv 5) (pa_nil)))) (pa_nil)))) (pss_cons (ps_set (i := 8) sc_law.nd rfl (Or.inl rfl) (pe_call c_read.ok (hr.mono (by decide)) (by rfl) c_read.g c_read.kp c_read.b .nil pass0 (pa_cons (pv 7) (pa_nil)))) (pss_cons (ps_if (pt_not (pt_val (pe_call c_law_alike.ok (hr.mono (by decide)) (by rfl) c_law_alike.g c_law_alike.kp c_law_alike.b .nil pass0 (pa_cons (pv 8) (pa_cons (pe_tup (pa_cons (pv 4) (pa_cons (pv 5) (pa_nil)))) (pa_nil)))))) (pss_cons (ps_ret (pe_bl)) (pss_nil)) (pss_nil)) (pss_cons (ps_expr (pe_bm PySem.F.plainAttrs_list PySem.F.slot_list_append PySem.F.type_list_append mt_append (pe_ix (zix_list (K := K) rfl) (pe_ix (zix_tup (K := K) rfl) (pv 8) (pe_int) (fun _ _ => rfl)) (pv 6) (fun _ _ => rfl)) (pa_cons (pe_tup (pa_cons (pe_str) (pa_cons (pe_tup (pa_cons (pe_str) (pa_cons (pe_int) (pa_nil)))) (pa_nil)))) (pa_nil)))) (pss_cons (ps_set (i := 9) sc_law.nd rfl (Or.inl rfl) (pe_op (zop_catS (K := K) rfl) (pe_slice (zsl_list (K := K) rfl) (pe_ix (zix_tup (K := K) rfl) (pv 8) (pe_int) (fun _ _ => rfl)) po_none (po_some (pv 6))) (pe_slice (zsl_list (K := K) rfl) (pe_ix (zix_tup (K := K) rfl) (pv 8) (pe_int) (fun _ _ => rfl)) (po_some (pe_op op_add (pv 6) (pe_int))) po_none))) (pss_cons (ps_if (PW.pt (pw_or (pt_not (pt_val (pe_call c_law_alike.ok (hr.mono (by decide)) (by rfl) c_law_alike.g c_law_alike.kp c_law_alike.b .nil pass0 (pa_cons (pv 9) (pa_cons (pe_op (zop_catS (K := K) rfl) (pe_slice (zsl_list (K := K) rfl) (pv 5) po_none (po_some (pv 6))) (pe_slice (zsl_list (K := K) rfl) (pv 5) (po_some (pe_op op_add (pv 6) (pe_int))) po_none)) (pa_nil)))))) (pw_or1 (pt_not (pt_val (pe_call c_law_alike.ok (hr.mono (by decide)) (by rfl) c_law_alike.g c_law_alike.kp c_law_alike.b .nil pass0 (pa_cons (pe_call c_read.ok (hr.mono (by decide)) (by rfl) c_read.g c_read.kp c_read.b .nil pass0 (pa_cons (pv 7) (pa_nil))) (pa_cons (pe_tup (pa_cons (pv 4) (pa_cons (pv 5) (pa_nil)))) (pa_nil))))))))) (pss_cons (ps_ret (pe_bl)) (pss_nil)) (pss_nil)) (pss_nil)))))))))))) (pss_cons (ps_ret (pe_bl)) (pss_nil))), ?_⟩
    refine l_asg (fun v => [_, some v, _, _, _, _, _, _, _, _]) (fun _ => rfl) ?_
    refine y_call ?_
    refine y_cons ?_
    refine y_var rfl ?_
    refine y_nil ?_
    refine ⟨amb, _, _, _, rfl, z, (LV.sub d_script_ mgE), ?_⟩
    refine run_mono3 hw (fun t1 hw v g3 H Ho e z d2 => ?_)
    replace d_script_ := LV.mo d_script_ e
    have es4 := (Same.refl _).trans e
    refine h_o hw z d2 (fun reel_ v_reel_ g_reel_ z d_reel_ hw => ?_)
    refine y_for ?_
    refine k_iR1 ?_
    refine y_cons ?_
    refine y_op ?_
    refine y_c ?_
    refine y_cb ?_
    refine y_cons ?_
    refine y_op ?_
    refine y_cb ?_
    refine y_cons ?_
    refine y_var rfl ?_
    refine y_nil ?_
    refine y_len (LV.sub d_script_ (mgS mgE)) z ?_
    refine y_c ?_
    refine y_ig hw.1 ?_
    replace hw := (run_gd hw).2
    refine y_cons ?_
    refine y_c ?_
    refine y_nil ?_
    refine ⟨_, _, rfl, ?_⟩
    refine y_i0 ?_
    refine y_nil ?_
    refine k_srcR1 (K := K) (Ho := Ho) hw.1 (fun J T => ?_)
    replace hw := (run_gd hw).2
    refine y_forC T hw (fun (s : (H4 (List Int) (List Int) Int Int)) (σ : L2.St) (H Ho : Hp) => ∃ (g_reel_ : Grp) (y_k_ : Option V) (y_twice_ : Option V) (y_many_ : Option V) (y_hands_ : Option V) (y_at_ : Option V) (y_text_ : Option V) (y_found_ : Option V) (y_others_ : Option V), σ = [some v_script_, some v_reel_, y_k_, y_twice_, y_many_, y_hands_, y_at_, y_text_, y_found_, y_others_] ∧ Zs (g_reel_ ++ amb) H Ho ∧ OH K Ho v_reel_ s g_reel_) ⟨_, _, _, _, _, _, _, _, _, rfl, z, d_reel_⟩ ?_ ?_ ?_ ?_
    · intro s σ H Ho hI
      obtain ⟨g_reel_, y_k_, y_twice_, y_many_, y_hands_, y_at_, y_text_, y_found_, y_others_, rfl, z, d_reel_⟩ := hI
      exact ⟨_, z, mgN⟩
    · intro s σ H Ho H2 Ho2 hI e t
      obtain ⟨g_reel_, y_k_, y_twice_, y_many_, y_hands_, y_at_, y_text_, y_found_, y_others_, rfl, z, d_reel_⟩ := hI
      exact ⟨_, _, _, _, _, _, _, _, _, rfl, t _ z, OH.mo d_reel_ e⟩
    · intro k_ v_k_ s σ H Ho N B e hI d_k_ hw
      obtain ⟨reel_, rfl⟩ : ∃ q, q = s := ⟨_, rfl⟩
      obtain ⟨g_reel_, y_k_, y_twice_, y_many_, y_hands_, y_at_, y_text_, y_found_, y_others_, rfl, z, d_reel_⟩ := hI
      have es5 := es4.trans e
      obtain rfl := d_int d_k_
      refine y_gname (σ' := [some v_script_, some v_reel_, some (V.int k_), y_twice_, y_many_, y_hands_, y_at_, y_text_, y_found_, y_others_]) rfl ?_
      refine l_asg (fun v => [_, _, _, some v, _, _, _, _, _, _]) (fun _ => rfl) ?_
      refine y_op ?_
      refine y_call ?_
      refine y_cons ?_
      refine y_var rfl ?_
      refine y_cons ?_
      refine y_c ?_
      refine y_nil ?_
      refine ⟨amb, _, _, _, _, _, _, rfl, z, d_reel_, (Dq.int _), ?_⟩
      refine run_mono2 hw (fun t6 reel_ hw v g_reel_ H Ho e z d7 d_reel_ => ?_)
      replace d7 : Z.D K Ho v t6 := d7
      replace d_reel_ : OH K Ho v_reel_ reel_ g_reel_ := d_reel_
      have es9 := (Same.refl _).trans e
      obtain rfl := d_int d7
      refine y_c ?_
      refine y_eqi ?_
      refine l_b hw (fun twice_ hw => ?_)
      refine y_asgG ?_
      refine y_call ?_
      refine y_cons ?_
      refine y_var rfl ?_
      refine y_nil ?_
      refine ⟨amb, _, _, _, _, rfl, z, d_reel_, ?_⟩
      refine run_mono2 hw (fun t10 reel_ hw v g12 g_reel_ H Ho e z d11 d_reel_ => ?_)
      replace d11 : OM (OLo OL) K Ho v t10 g12 := d11
      replace d_reel_ : OH K Ho v_reel_ reel_ g_reel_ := d_reel_
      have es13 := es9.trans e
      obtain ⟨u14, ⟨p17, rfl, t15⟩, d16⟩ := d11
      have t15 : TupAt Ho (V.ref p17) (V.int t10.1) u14 := ⟨_, rfl, t15⟩
      refine h_nmG (P := fun i => TupAt Ho (V.ref p17) (V.int i) u14) hw t15 (fun many_ t15 hw => ?_)
      refine l_oG2 (P := OLo OL K Ho) hw z d16 (fun hands_ g_hands_ z d_hands_ hw => ?_)
      refine p_gt2 (fun v u => [_, _, _, _, some v, some u, _, _, _, _]) (fun _ _ => rfl) t15 z ?_
      refine l_asg (fun v => [_, _, _, _, _, _, some v, _, _, _]) (fun _ => rfl) ?_
      refine y_call ?_
      refine y_cons ?_
      refine y_var rfl ?_
      refine y_cons ?_
      refine y_cb ?_
      refine y_cons ?_
      refine y_var rfl ?_
      refine y_nil ?_
      refine y_lenLo ⟨_, d_hands_, mg0⟩ z ?_
      refine y_nil ?_
      replace z : Zs (g_reel_ ++ (g_hands_ ++ amb)) _ _ := z.go [g_hands_, g_reel_] amb [1, 0]
      refine ⟨(g_hands_ ++ amb), _, _, _, _, _, _, rfl, z, d_reel_, (Dq.int _), ?_⟩
      refine run_mono2 hw (fun t18 reel_ hw v g_reel_ H Ho e z d19 d_reel_ => ?_)
      replace d19 : Z.D K Ho v t18 := d19
      replace d_reel_ : OH K Ho v_reel_ reel_ g_reel_ := d_reel_
      replace d_hands_ := OLo.mo d_hands_ e
      have es21 := es13.trans e
      obtain rfl := d_int d19
      refine l_i hw (fun at_ hw => ?_)
      refine y_ifS ?_
      refine y_tB ?_
      refine y_var rfl ?_
      refine ⟨_, rfl, ?_⟩
      refine w_ifJ hw (fun (s : (List (List PyData))) (σ : L2.St) (H : Hp) => ∃ Ho2, Same Ho Ho2 ∧ (fun (s : (List (List PyData))) (σ : L2.St) (H Ho : Hp) => ∃ (g_hands_ : Grp), σ = [some v_script_, some v_reel_, some (V.int k_), some (V.bl twice_), some (V.int many_), some u14, some (V.int at_), y_text_, y_found_, y_others_] ∧ Zs (g_reel_ ++ (g_hands_ ++ amb)) H Ho ∧ OLo OL K Ho u14 s g_hands_) s σ H Ho2) (fun hb hw => ?_) (fun hb hw => ?_) ?_
      · refine y_asgG ?_
        refine y_cb ?_
        refine y_cons ?_
        refine y_op ?_
        refine y_var rfl ?_
        refine y_var rfl ?_
        refine y_ixLo (⟨_, d_hands_, (mgS mg0)⟩ : BLo OL K (g_reel_ ++ (g_hands_ ++ amb)) Ho _ _) mgE z hw (fun t22 u23 el24 be25 hw => ?_)
        refine y_nil ?_
        refine y_list (elLv be25 (fun r m => (List.mem_append.mp m).elim (mg0 r) ((fun r m => (List.mem_append.mp m).elim ((mgS mg0) r) ((mgS (mgS mgE)) r)) r))) z (fun H p26 ws27 z d28 => ?_)
        replace z : Zs ([(p26, HO.lst ws27)] ++ (g_reel_ ++ (g_hands_ ++ amb))) H Ho := z
        have o29 := OL.mk (p := p26) d28
        refine y_gsub ?_
        refine y_var rfl ?_
        refine y_un ?_
        refine y_c ?_
        refine y_neg ?_
        replace z : Zs ([(p26, HO.lst ws27)] ++ (g_hands_ ++ (g_reel_ ++ amb))) _ _ := z.go [[(p26, HO.lst ws27)], g_reel_, g_hands_] amb [0, 2, 1]
        refine g_stiO z d_hands_ o29 hw (fun hands_ g_hands_ H z d_hands_ hw => ?_)
        replace z : Zs (g_reel_ ++ (g_hands_ ++ amb)) _ _ := z.go [g_hands_, g_reel_] amb [1, 0]
        exact (run_ret hw) _ _ ⟨_, (Same.refl _), ⟨_, rfl, z, d_hands_⟩⟩
      · refine y_nxS ?_
        exact (run_ret hw) _ _ ⟨_, (Same.refl _), ⟨_, rfl, z, d_hands_⟩⟩
      rintro hands_ σ H ⟨Ho, e, g_hands_, rfl, z, d_hands_⟩ hw
      replace d_reel_ := OH.mo d_reel_ e
      have es30 := es21.trans e
      refine l_asg (fun v => [_, _, _, _, _, _, _, some v, _, _]) (fun _ => rfl) ?_
      refine y_call ?_
      refine y_cons ?_
      refine k_tup ?_
      refine y_cons ?_
      refine y_var rfl ?_
      refine y_cons ?_
      refine y_var rfl ?_
      replace z : Zs (g_hands_ ++ (g_reel_ ++ amb)) _ _ := z.go [g_reel_, g_hands_] amb [1, 0]
      refine ow_fr (P := OLo OL) d_hands_ z (fun Ho e z d_hands_ => ?_)
      replace d_reel_ := OH.mo d_reel_ e
      have es31 := es30.trans e
      refine y_nil ?_
      refine k_tupk (K := K) (x := (many_, hands_)) z (by show 2 ≤ sizeLine; decide) _ rfl (DqAll.cons (Dq.int _) (DqAll.cons d_hands_ DqAll.nil)) (fun p H Ho e z d32 => ?_)
      replace d_hands_ := D.mo d_hands_ e
      replace d_reel_ := OH.mo d_reel_ e
      have es33 := es31.trans e
      refine y_nil ?_
      refine ⟨[], _, _, _, rfl, z.all, (D.mo d32 z.le), ?_⟩
      refine run_mono3 hw (fun t34 hw v H Ho39 e37 z38 d35 => ?_)
      replace z := z.unlend e37 z38
      obtain rfl := d_str d35
      refine l_s hw (fun text_ hw => ?_)
      refine l_asg (fun v => [_, _, _, _, _, _, _, _, some v, _]) (fun _ => rfl) ?_
      refine y_call ?_
      refine y_cons ?_
      refine y_var rfl ?_
      refine y_nil ?_
      refine ⟨(g_reel_ ++ amb), _, _, _, rfl, z, (Dq.str _), ?_⟩
      refine run_mono3 hw (fun t40 hw v g42 H Ho e z d41 => ?_)
      replace d_hands_ := D.mo d_hands_ e
      replace d_reel_ := OH.mo d_reel_ e
      have es43 := es33.trans e
      obtain ⟨u44, ⟨p47, rfl, t45⟩, d46⟩ := d41
      have t45 : TupAt Ho (V.ref p47) (V.int t40.1) u44 := ⟨_, rfl, t45⟩
      refine l_any2 ?_
      obtain ⟨v_found__1_, t45, d_found__1_⟩ : ∃ v, TupAt Ho (V.ref p47) (V.int t40.1) v ∧ OLo OL K Ho v t40.2 g42 := ⟨_, t45, d46⟩
      refine h_nmG (P := fun i => TupAt Ho (V.ref p47) (V.int i) v_found__1_) hw t45 (fun found__0_ t45 hw => ?_)
      refine l_oG2 (P := OLo OL K Ho) hw z d_found__1_ (fun found__1_ g_found__1_ z d_found__1_ hw => ?_)
      refine y_ifS ?_
      refine y_not ?_
      refine y_tB ?_
      refine y_call ?_
      refine y_cons ?_
      refine y_var rfl ?_
      refine y_cons ?_
      refine k_tup ?_
      refine y_cons ?_
      refine y_var rfl ?_
      refine y_cons ?_
      refine y_var rfl ?_
      refine y_nil ?_
      refine k_tupk (K := K) (x := (many_, hands_)) z (by show 2 ≤ sizeLine; decide) _ rfl (DqAll.cons (Dq.int _) (DqAll.cons d_hands_ DqAll.nil)) (fun p H Ho e z d48 => ?_)
      replace t45 := TupAt.mo t45 e
      replace d_found__1_ := OLo.mo d_found__1_ e
      replace d_hands_ := D.mo d_hands_ e
      replace d_reel_ := OH.mo d_reel_ e
      have es49 := es43.trans e
      refine y_nil ?_
      refine ⟨[], _, _, _, _, _, rfl, z.all, (show Z.D K H _ (toPy (found__0_, found__1_)) from (RdV.rd (RdV.two t45 RdV.int (RdV.ofO (P := OLo OL) d_found__1_ mg0)) (fun _ h => h) z)), (show Z.D K H _ (toPy (many_, hands_)) from (D.mo d48 z.le)), ?_⟩
      refine run_mono3 hw (fun t50 hw v H Ho55 e53 z54 d51 => ?_)
      replace z := z.unlend e53 z54
      obtain rfl := d_bool d51
      refine ⟨_, rfl, ?_⟩
      refine y_cases hw (fun hb hw => ?_) (fun hb hw => ?_)
      · refine y_ret ?_
        refine y_c ?_
        replace z : Zs amb _ _ := z.go [g_found__1_, g_reel_] amb []
        exact (ctl_rt (run_ret hw)) _ _ _ (es5.trans es49) z (Dq.bl _)
      · refine y_nxS ?_
        refine y_drop ?_
        refine y_bm ?_
        refine y_op ?_
        refine y_op ?_
        refine y_var rfl ?_
        refine y_c ?_
        refine p_ix1 t45 z ?_
        refine y_var rfl ?_
        refine y_ixLo (⟨_, d_found__1_, mg0⟩ : BLo OL K (g_found__1_ ++ (g_reel_ ++ amb)) Ho _ _) mgE z hw (fun t56 u57 el58 be59 hw => ?_)
        refine g_tyL (elLv be59 (fun r m => (List.mem_append.mp m).elim (mg0 r) ((fun r m => (List.mem_append.mp m).elim ((mgS mg0) r) ((mgS (mgS mgE)) r)) r))) z ?_
        refine y_cons ?_
        refine k_tup ?_
        refine y_cons ?_
        refine y_c ?_
        refine y_cons ?_
        refine k_tup ?_
        refine y_cons ?_
        refine y_c ?_
        refine y_cons ?_
        refine y_c ?_
        refine y_nil ?_
        refine k_tupk (K := K) (x := (("number" : Str), (0 : Int))) z (by show 2 ≤ sizeLine; decide) _ rfl (DqAll.cons (Dq.str _) (DqAll.cons (Dq.int _) DqAll.nil)) (fun p H Ho e z d60 => ?_)
        replace t45 := TupAt.mo t45 e
        replace d_found__1_ := OLo.mo d_found__1_ e
        replace d_hands_ := D.mo d_hands_ e
        replace d_reel_ := OH.mo d_reel_ e
        replace be59 := elMo be59 e
        have es61 := es49.trans e
        refine y_nil ?_
        refine k_tupk (K := K) (x := (("say" : Str), (("number" : Str), (0 : Int)))) z (by show 2 ≤ sizeLine; decide) _ rfl (DqAll.cons (Dq.str _) (DqAll.cons d60 DqAll.nil)) (fun p H Ho e z d62 => ?_)
        replace t45 := TupAt.mo t45 e
        replace d_found__1_ := OLo.mo d_found__1_ e
        replace d_hands_ := D.mo d_hands_ e
        replace d_reel_ := OH.mo d_reel_ e
        replace be59 := elMo be59 e
        have es63 := es61.trans e
        have d64 := (show Z.D K Ho _ (toPy (("say" : Str), (("number" : Str), (0 : Int)))) from d62)
        refine y_nil ?_
        refine h_nmG (P := fun i => ElAt _ _ i _) hw el58 (fun el65___ix_ el_el65__ hw => ?_)
        refine o_openE d_found__1_ z el_el65__ (fun r m => (List.mem_append.mp m).elim (mg0 r) ((fun r m => (List.mem_append.mp m).elim ((mgS mg0) r) ((mgS (mgS mgE)) r)) r)) hw (fun el65__ g_el65__ gh_el65__ pb_el65__ z oh_el65__ d_el65__ hw => ?_)
        refine g_app z d_el65__ d64 hw (fun el65__ g_el65__ H z d_el65__ hw => ?_)
        refine o_fill oh_el65__ d_el65__ z (fun g66 z d67 => ?_)
        refine h_nmG (P := fun x => OLo OL K Ho v_found__1_ x g66) hw d67 (fun found__1_ d_found__1_ hw => ?_)
        refine ow_fr (P := OLo OL) d_found__1_ z (fun Ho e z d_found__1_ => ?_)
        replace t45 := TupAt.mo t45 e
        replace d_hands_ := D.mo d_hands_ e
        replace d_reel_ := OH.mo d_reel_ e
        have es68 := es63.trans e
        refine l_asg (fun v => [_, _, _, _, _, _, _, _, _, some v]) (fun _ => rfl) ?_
        refine y_op ?_
        refine y_sl ?_
        refine y_op ?_
        refine y_var rfl ?_
        refine y_c ?_
        refine p_ix1 t45 z ?_
        refine y_noPart ?_
        refine y_part ?_
        refine y_var rfl ?_
        refine ⟨_, rfl, ?_⟩
        refine y_slL (LV.of d_found__1_) z (fun H p69 ws70 z d71 => ?_)
        replace z : Zs ([(p69, HO.lst ws70)] ++ (g_reel_ ++ amb)) H Ho := z
        have o72 := OL.mk (p := p69) d71
        refine y_sl ?_
        refine y_op ?_
        refine y_var rfl ?_
        refine y_c ?_
        refine p_ix1 t45 z ?_
        refine y_part ?_
        refine y_op ?_
        refine y_var rfl ?_
        refine y_c ?_
        refine y_i0 ?_
        refine ⟨_, rfl, ?_⟩
        refine y_noPart ?_
        refine y_slL (LV.of d_found__1_) z (fun H p73 ws74 z d75 => ?_)
        replace z : Zs ([(p73, HO.lst ws74)] ++ ([(p69, HO.lst ws70)] ++ (g_reel_ ++ amb))) H Ho := z
        have o76 := OL.mk (p := p73) d75
        refine y_cat (OL.lv o72 (mgS mg0)) (OL.lv o76 mg0) z hw.1 (fun H p77 ws78 z d79 => ?_)
        replace hw := (run_gd hw).2
        replace z : Zs ([(p77, HO.lst ws78)] ++ ([(p73, HO.lst ws74)] ++ ([(p69, HO.lst ws70)] ++ (g_reel_ ++ amb)))) H Ho := z
        have o80 := OL.mk (p := p77) d79
        refine l_fr o80 z (fun Ho e z d81 => ?_)
        replace t45 := TupAt.mo t45 e
        replace d_found__1_ := D.mo d_found__1_ e
        replace d_hands_ := D.mo d_hands_ e
        replace d_reel_ := OH.mo d_reel_ e
        have es82 := es68.trans e
        refine l_d (K := K) (Ho := Ho) hw d81 (fun others_ v_others_ d_others_ hw => ?_)
        replace z : Zs (g_reel_ ++ amb) _ _ := z.go [[(p73, HO.lst ws74)], [(p69, HO.lst ws70)], g_reel_] amb [2]
        refine y_ifS ?_
        refine y_or ?_
        refine y_not ?_
        refine y_tB ?_
        refine y_call ?_
        refine y_cons ?_
        refine y_var rfl ?_
        refine y_cons ?_
        refine y_op ?_
        refine y_sl ?_
        refine y_var rfl ?_
        refine y_noPart ?_
        refine y_part ?_
        refine y_var rfl ?_
        refine ⟨_, rfl, ?_⟩
        refine y_slL (LV.of d_hands_) z (fun H p83 ws84 z d85 => ?_)
        replace z : Zs ([(p83, HO.lst ws84)] ++ (g_reel_ ++ amb)) H Ho := z
        have o86 := OL.mk (p := p83) d85
        refine y_sl ?_
        refine y_var rfl ?_
        refine y_part ?_
        refine y_op ?_
        refine y_var rfl ?_
        refine y_c ?_
        refine y_i0 ?_
        refine ⟨_, rfl, ?_⟩
        refine y_noPart ?_
        refine y_slL (LV.of d_hands_) z (fun H p87 ws88 z d89 => ?_)
        replace z : Zs ([(p87, HO.lst ws88)] ++ ([(p83, HO.lst ws84)] ++ (g_reel_ ++ amb))) H Ho := z
        have o90 := OL.mk (p := p87) d89
        refine y_cat (OL.lv o86 (mgS mg0)) (OL.lv o90 mg0) z hw.1 (fun H p91 ws92 z d93 => ?_)
        replace hw := (run_gd hw).2
        replace z : Zs ([(p91, HO.lst ws92)] ++ ([(p87, HO.lst ws88)] ++ ([(p83, HO.lst ws84)] ++ (g_reel_ ++ amb)))) H Ho := z
        have o94 := OL.mk (p := p91) d93
        refine y_nil ?_
        refine ⟨[], _, _, _, _, _, rfl, z.all, (show Z.D K H _ (toPy others_) from (D.mo d_others_ z.le)), (show Z.D K H _ (toPy ((Z.cut hands_ none (some at_)) ++ (Z.cut hands_ (some (at_ + (1 : Int))) none))) from (OwnD.rd (P := OL) o94 z.le (z.in_ mg0))), ?_⟩
        refine run_mono3 hw (fun t95 hw v H Ho100 e98 z99 d96 => ?_)
        replace z := z.unlend e98 z99
        obtain rfl := d_bool d96
        refine ⟨_, rfl, ?_⟩
        refine w_orJ hw (fun (s : Bool) (v : Bool) (H2 : Hp) => ∃ (Ho2 : Hp), Same Ho Ho2 ∧ Zs ([(p91, HO.lst ws92)] ++ ([(p87, HO.lst ws88)] ++ ([(p83, HO.lst ws84)] ++ (g_reel_ ++ amb)))) H2 Ho2 ∧ v = s) (fun hb hw => ?_) (fun hb hw => ?_) ?_
        · exact (run_ret hw) _ _ ⟨_, (Same.refl _), z, rfl⟩
        · refine y_not ?_
          refine y_tB ?_
          refine y_call ?_
          refine y_cons ?_
          refine y_call ?_
          refine y_cons ?_
          refine y_var rfl ?_
          refine y_nil ?_
          refine ⟨([(p91, HO.lst ws92)] ++ ([(p87, HO.lst ws88)] ++ ([(p83, HO.lst ws84)] ++ (g_reel_ ++ amb)))), _, _, _, rfl, z, (Dq.str _), ?_⟩
          refine run_mono3 hw (fun t101 hw v g103 H Ho e z d102 => ?_)
          replace t45 := TupAt.mo t45 e
          replace d_found__1_ := D.mo d_found__1_ e
          replace d_hands_ := D.mo d_hands_ e
          replace d_others_ := D.mo d_others_ e
          replace d_reel_ := OH.mo d_reel_ e
          have es104 := (Same.refl _).trans e
          obtain ⟨u105, ⟨p108, rfl, t106⟩, d107⟩ := d102
          have t106 : TupAt Ho (V.ref p108) (V.int t101.1) u105 := ⟨_, rfl, t106⟩
          refine y_cons ?_
          refine k_tup ?_
          refine y_cons ?_
          refine y_var rfl ?_
          refine y_cons ?_
          refine y_var rfl ?_
          refine y_nil ?_
          refine k_tupk (K := K) (x := (many_, hands_)) z (by show 2 ≤ sizeLine; decide) _ rfl (DqAll.cons (Dq.int _) (DqAll.cons d_hands_ DqAll.nil)) (fun p H Ho e z d109 => ?_)
          replace t45 := TupAt.mo t45 e
          replace d_found__1_ := D.mo d_found__1_ e
          replace d_hands_ := D.mo d_hands_ e
          replace d_others_ := D.mo d_others_ e
          replace d_reel_ := OH.mo d_reel_ e
          replace t106 := TupAt.mo t106 e
          replace d107 := OLo.mo d107 e
          have es110 := es104.trans e
          refine y_nil ?_
          refine ⟨[], _, _, _, _, _, rfl, z.all, (show Z.D K H _ (toPy t101) from (TupAt.dd (TupAt.mo t106 z.le) (Dq.int _) (OwnD.rd (P := OLo OL) d107 z.le (z.in_ mg0)))), (show Z.D K H _ (toPy (many_, hands_)) from (D.mo d109 z.le)), ?_⟩
          refine run_mono3 hw (fun t111 hw v H Ho116 e114 z115 d112 => ?_)
          replace z := z.unlend e114 z115
          obtain rfl := d_bool d112
          refine ⟨_, rfl, ?_⟩
          replace z : Zs ([(p91, HO.lst ws92)] ++ ([(p87, HO.lst ws88)] ++ ([(p83, HO.lst ws84)] ++ (g_reel_ ++ amb)))) _ _ := z.go [g103, [(p91, HO.lst ws92)], [(p87, HO.lst ws88)], [(p83, HO.lst ws84)], g_reel_] amb [1, 2, 3, 4]
          exact (run_ret hw) _ _ ⟨_, es110, z, rfl⟩
        rintro t117 v H ⟨Ho, e, z, rfl⟩ hw
        replace t45 := TupAt.mo t45 e
        replace d_found__1_ := D.mo d_found__1_ e
        replace d_hands_ := D.mo d_hands_ e
        replace d_others_ := D.mo d_others_ e
        replace d_reel_ := OH.mo d_reel_ e
        have es120 := es82.trans e
        refine y_cases hw (fun hb hw => ?_) (fun hb hw => ?_)
        · replace z : Zs (g_reel_ ++ amb) _ _ := z.go [[(p91, HO.lst ws92)], [(p87, HO.lst ws88)], [(p83, HO.lst ws84)], g_reel_] amb [3]
          refine y_ret ?_
          refine y_c ?_
          replace z : Zs amb _ _ := z.go [g_reel_] amb []
          exact (ctl_rt (run_ret hw)) _ _ _ (es5.trans es120) z (Dq.bl _)
        · refine y_nxS ?_
          replace z : Zs (g_reel_ ++ amb) _ _ := z.go [[(p91, HO.lst ws92)], [(p87, HO.lst ws88)], [(p83, HO.lst ws84)], g_reel_] amb [3]
          exact ctl_nx (run_ret hw) _ _ _ es120 ⟨_, _, _, _, _, _, _, _, _, rfl, z, d_reel_⟩
    intro s σ H Ho e hI hw
    obtain ⟨reel_, rfl⟩ : ∃ q, q = s := ⟨_, rfl⟩
    obtain ⟨g_reel_, y_k_, y_twice_, y_many_, y_hands_, y_at_, y_text_, y_found_, y_others_, rfl, z, d_reel_⟩ := hI
    have es121 := es4.trans e
    refine y_ret ?_
    refine y_c ?_
    replace z : Zs amb _ _ := z.go [g_reel_] amb []
    exact (run_ret hw) _ _ _ es121 z (Dq.bl _)
end
def spLaw (K : PySem.W.Frag) : Sp := fun vs H Q _ => ∃ (a : Addr) (ns : List Int), vs = [.ref a] ∧ SqL K H a (ns.map V.int) ∧ ns.length ≤ 63 ∧ ∀ H', Q (.bl true) H'
theorem all_mk {l : PySem.W.OpenLaw} {w : World} {K : PySem.W.Frag} {h : Heap} {mg : Str → Option Value} {fa : Addr} (X : K.In h) (G : h.Ns mainGlobals mg) (hfa : mg "law" = some (.ref fa))
    {f1 : Addr} {od1 an1 : Option Addr} {sl1 : Array (Option Value)} {oc1 kV1 dc1 pm1 cd1 ct1 : Value}
    (a1 : PySem.W.nsIn K mainGlobals "number_of" = some (some (.ref f1)))
    (l1 : K.lookup f1 = some ⟨oc1, od1, .func (PySem.W.fnOf "number_of" "number_of" (defArgs s_number_of) (defBody s_number_of) (defScope s_number_of) .none kV1 dc1 pm1 an1 cd1 ct1), sl1⟩)
    (c1 : PySem.W.codeIn K cd1 "number_of" = true) (k1 : PySem.W.keepIn K (.ref f1) = true)
    {f2 : Addr} {od2 an2 : Option Addr} {sl2 : Array (Option Value)} {oc2 kV2 dc2 pm2 cd2 ct2 : Value}
    (a2 : PySem.W.nsIn K mainGlobals "box_of" = some (some (.ref f2)))
    (l2 : K.lookup f2 = some ⟨oc2, od2, .func (PySem.W.fnOf "box_of" "box_of" (defArgs s_box_of) (defBody s_box_of) (defScope s_box_of) .none kV2 dc2 pm2 an2 cd2 ct2), sl2⟩)
    (c2 : PySem.W.codeIn K cd2 "box_of" = true) (k2 : PySem.W.keepIn K (.ref f2) = true)
    {f3 : Addr} {od3 an3 : Option Addr} {sl3 : Array (Option Value)} {oc3 kV3 dc3 pm3 cd3 ct3 : Value}
    (a3 : PySem.W.nsIn K mainGlobals "plain_of" = some (some (.ref f3)))
    (l3 : K.lookup f3 = some ⟨oc3, od3, .func (PySem.W.fnOf "plain_of" "plain_of" (defArgs s_plain_of) (defBody s_plain_of) (defScope s_plain_of) .none kV3 dc3 pm3 an3 cd3 ct3), sl3⟩)
    (c3 : PySem.W.codeIn K cd3 "plain_of" = true) (k3 : PySem.W.keepIn K (.ref f3) = true)
    {f4 : Addr} {od4 an4 : Option Addr} {sl4 : Array (Option Value)} {oc4 kV4 dc4 pm4 cd4 ct4 : Value}
    (a4 : PySem.W.nsIn K mainGlobals "worth_of" = some (some (.ref f4)))
    (l4 : K.lookup f4 = some ⟨oc4, od4, .func (PySem.W.fnOf "worth_of" "worth_of" (defArgs s_worth_of) (defBody s_worth_of) (defScope s_worth_of) .none kV4 dc4 pm4 an4 cd4 ct4), sl4⟩)
    (c4 : PySem.W.codeIn K cd4 "worth_of" = true) (k4 : PySem.W.keepIn K (.ref f4) = true)
    {f5 : Addr} {od5 an5 : Option Addr} {sl5 : Array (Option Value)} {oc5 kV5 dc5 pm5 cd5 ct5 : Value}
    (a5 : PySem.W.nsIn K mainGlobals "unless_of" = some (some (.ref f5)))
    (l5 : K.lookup f5 = some ⟨oc5, od5, .func (PySem.W.fnOf "unless_of" "unless_of" (defArgs s_unless_of) (defBody s_unless_of) (defScope s_unless_of) .none kV5 dc5 pm5 an5 cd5 ct5), sl5⟩)
    (c5 : PySem.W.codeIn K cd5 "unless_of" = true) (k5 : PySem.W.keepIn K (.ref f5) = true)
    {f6 : Addr} {od6 an6 : Option Addr} {sl6 : Array (Option Value)} {oc6 kV6 dc6 pm6 cd6 ct6 : Value}
    (a6 : PySem.W.nsIn K mainGlobals "row_of" = some (some (.ref f6)))
    (l6 : K.lookup f6 = some ⟨oc6, od6, .func (PySem.W.fnOf "row_of" "row_of" (defArgs s_row_of) (defBody s_row_of) (defScope s_row_of) .none kV6 dc6 pm6 an6 cd6 ct6), sl6⟩)
    (c6 : PySem.W.codeIn K cd6 "row_of" = true) (k6 : PySem.W.keepIn K (.ref f6) = true)
    {f7 : Addr} {od7 an7 : Option Addr} {sl7 : Array (Option Value)} {oc7 kV7 dc7 pm7 cd7 ct7 : Value}
    (a7 : PySem.W.nsIn K mainGlobals "cell_of" = some (some (.ref f7)))
    (l7 : K.lookup f7 = some ⟨oc7, od7, .func (PySem.W.fnOf "cell_of" "cell_of" (defArgs s_cell_of) (defBody s_cell_of) (defScope s_cell_of) .none kV7 dc7 pm7 an7 cd7 ct7), sl7⟩)
    (c7 : PySem.W.codeIn K cd7 "cell_of" = true) (k7 : PySem.W.keepIn K (.ref f7) = true)
    {f8 : Addr} {od8 an8 : Option Addr} {sl8 : Array (Option Value)} {oc8 kV8 dc8 pm8 cd8 ct8 : Value}
    (a8 : PySem.W.nsIn K mainGlobals "cells_of" = some (some (.ref f8)))
    (l8 : K.lookup f8 = some ⟨oc8, od8, .func (PySem.W.fnOf "cells_of" "cells_of" (defArgs s_cells_of) (defBody s_cells_of) (defScope s_cells_of) .none kV8 dc8 pm8 an8 cd8 ct8), sl8⟩)
    (c8 : PySem.W.codeIn K cd8 "cells_of" = true) (k8 : PySem.W.keepIn K (.ref f8) = true)
    {f9 : Addr} {od9 an9 : Option Addr} {sl9 : Array (Option Value)} {oc9 kV9 dc9 pm9 cd9 ct9 : Value}
    (a9 : PySem.W.nsIn K mainGlobals "take_row" = some (some (.ref f9)))
    (l9 : K.lookup f9 = some ⟨oc9, od9, .func (PySem.W.fnOf "take_row" "take_row" (defArgs s_take_row) (defBody s_take_row) (defScope s_take_row) .none kV9 dc9 pm9 an9 cd9 ct9), sl9⟩)
    (c9 : PySem.W.codeIn K cd9 "take_row" = true) (k9 : PySem.W.keepIn K (.ref f9) = true)
    {f10 : Addr} {od10 an10 : Option Addr} {sl10 : Array (Option Value)} {oc10 kV10 dc10 pm10 cd10 ct10 : Value}
    (a10 : PySem.W.nsIn K mainGlobals "look_at_targets" = some (some (.ref f10)))
    (l10 : K.lookup f10 = some ⟨oc10, od10, .func (PySem.W.fnOf "look_at_targets" "look_at_targets" (defArgs s_look_at_targets) (defBody s_look_at_targets) (defScope s_look_at_targets) .none kV10 dc10 pm10 an10 cd10 ct10), sl10⟩)
    (c10 : PySem.W.codeIn K cd10 "look_at_targets" = true) (k10 : PySem.W.keepIn K (.ref f10) = true)
    {f11 : Addr} {od11 an11 : Option Addr} {sl11 : Array (Option Value)} {oc11 kV11 dc11 pm11 cd11 ct11 : Value}
    (a11 : PySem.W.nsIn K mainGlobals "read" = some (some (.ref f11)))
    (l11 : K.lookup f11 = some ⟨oc11, od11, .func (PySem.W.fnOf "read" "read" (defArgs s_read) (defBody s_read) (defScope s_read) .none kV11 dc11 pm11 an11 cd11 ct11), sl11⟩)
    (c11 : PySem.W.codeIn K cd11 "read" = true) (k11 : PySem.W.keepIn K (.ref f11) = true)
    {f12 : Addr} {od12 an12 : Option Addr} {sl12 : Array (Option Value)} {oc12 kV12 dc12 pm12 cd12 ct12 : Value}
    (a12 : PySem.W.nsIn K mainGlobals "_law_reel" = some (some (.ref f12)))
    (l12 : K.lookup f12 = some ⟨oc12, od12, .func (PySem.W.fnOf "_law_reel" "_law_reel" (defArgs s_law_reel) (defBody s_law_reel) (defScope s_law_reel) .none kV12 dc12 pm12 an12 cd12 ct12), sl12⟩)
    (c12 : PySem.W.codeIn K cd12 "_law_reel" = true) (k12 : PySem.W.keepIn K (.ref f12) = true)
    {f13 : Addr} {od13 an13 : Option Addr} {sl13 : Array (Option Value)} {oc13 kV13 dc13 pm13 cd13 ct13 : Value}
    (a13 : PySem.W.nsIn K mainGlobals "_law_draw" = some (some (.ref f13)))
    (l13 : K.lookup f13 = some ⟨oc13, od13, .func (PySem.W.fnOf "_law_draw" "_law_draw" (defArgs s_law_draw) (defBody s_law_draw) (defScope s_law_draw) .none kV13 dc13 pm13 an13 cd13 ct13), sl13⟩)
    (c13 : PySem.W.codeIn K cd13 "_law_draw" = true) (k13 : PySem.W.keepIn K (.ref f13) = true)
    {f14 : Addr} {od14 an14 : Option Addr} {sl14 : Array (Option Value)} {oc14 kV14 dc14 pm14 cd14 ct14 : Value}
    (a14 : PySem.W.nsIn K mainGlobals "_law_alike" = some (some (.ref f14)))
    (l14 : K.lookup f14 = some ⟨oc14, od14, .func (PySem.W.fnOf "_law_alike" "_law_alike" (defArgs s_law_alike) (defBody s_law_alike) (defScope s_law_alike) .none kV14 dc14 pm14 an14 cd14 ct14), sl14⟩)
    (c14 : PySem.W.codeIn K cd14 "_law_alike" = true) (k14 : PySem.W.keepIn K (.ref f14) = true)
    {f15 : Addr} {od15 an15 : Option Addr} {sl15 : Array (Option Value)} {oc15 kV15 dc15 pm15 cd15 ct15 : Value}
    (a15 : PySem.W.nsIn K mainGlobals "_law_plain" = some (some (.ref f15)))
    (l15 : K.lookup f15 = some ⟨oc15, od15, .func (PySem.W.fnOf "_law_plain" "_law_plain" (defArgs s_law_plain) (defBody s_law_plain) (defScope s_law_plain) .none kV15 dc15 pm15 an15 cd15 ct15), sl15⟩)
    (c15 : PySem.W.codeIn K cd15 "_law_plain" = true) (k15 : PySem.W.keepIn K (.ref f15) = true)
    {f16 : Addr} {od16 an16 : Option Addr} {sl16 : Array (Option Value)} {oc16 kV16 dc16 pm16 cd16 ct16 : Value}
    (a16 : PySem.W.nsIn K mainGlobals "_law_worth" = some (some (.ref f16)))
    (l16 : K.lookup f16 = some ⟨oc16, od16, .func (PySem.W.fnOf "_law_worth" "_law_worth" (defArgs s_law_worth) (defBody s_law_worth) (defScope s_law_worth) .none kV16 dc16 pm16 an16 cd16 ct16), sl16⟩)
    (c16 : PySem.W.codeIn K cd16 "_law_worth" = true) (k16 : PySem.W.keepIn K (.ref f16) = true)
    {f17 : Addr} {od17 an17 : Option Addr} {sl17 : Array (Option Value)} {oc17 kV17 dc17 pm17 cd17 ct17 : Value}
    (a17 : PySem.W.nsIn K mainGlobals "_law_row" = some (some (.ref f17)))
    (l17 : K.lookup f17 = some ⟨oc17, od17, .func (PySem.W.fnOf "_law_row" "_law_row" (defArgs s_law_row) (defBody s_law_row) (defScope s_law_row) .none kV17 dc17 pm17 an17 cd17 ct17), sl17⟩)
    (c17 : PySem.W.codeIn K cd17 "_law_row" = true) (k17 : PySem.W.keepIn K (.ref f17) = true)
    {f18 : Addr} {od18 an18 : Option Addr} {sl18 : Array (Option Value)} {oc18 kV18 dc18 pm18 cd18 ct18 : Value}
    (a18 : PySem.W.nsIn K mainGlobals "_law_program" = some (some (.ref f18)))
    (l18 : K.lookup f18 = some ⟨oc18, od18, .func (PySem.W.fnOf "_law_program" "_law_program" (defArgs s_law_program) (defBody s_law_program) (defScope s_law_program) .none kV18 dc18 pm18 an18 cd18 ct18), sl18⟩)
    (c18 : PySem.W.codeIn K cd18 "_law_program" = true) (k18 : PySem.W.keepIn K (.ref f18) = true)
    {f19 : Addr} {od19 an19 : Option Addr} {sl19 : Array (Option Value)} {oc19 kV19 dc19 pm19 cd19 ct19 : Value}
    (a19 : PySem.W.nsIn K mainGlobals "_law_worth_text" = some (some (.ref f19)))
    (l19 : K.lookup f19 = some ⟨oc19, od19, .func (PySem.W.fnOf "_law_worth_text" "_law_worth_text" (defArgs s_law_worth_text) (defBody s_law_worth_text) (defScope s_law_worth_text) .none kV19 dc19 pm19 an19 cd19 ct19), sl19⟩)
    (c19 : PySem.W.codeIn K cd19 "_law_worth_text" = true) (k19 : PySem.W.keepIn K (.ref f19) = true)
    {f20 : Addr} {od20 an20 : Option Addr} {sl20 : Array (Option Value)} {oc20 kV20 dc20 pm20 cd20 ct20 : Value}
    (a20 : PySem.W.nsIn K mainGlobals "_law_row_text" = some (some (.ref f20)))
    (l20 : K.lookup f20 = some ⟨oc20, od20, .func (PySem.W.fnOf "_law_row_text" "_law_row_text" (defArgs s_law_row_text) (defBody s_law_row_text) (defScope s_law_row_text) .none kV20 dc20 pm20 an20 cd20 ct20), sl20⟩)
    (c20 : PySem.W.codeIn K cd20 "_law_row_text" = true) (k20 : PySem.W.keepIn K (.ref f20) = true)
    {f21 : Addr} {od21 an21 : Option Addr} {sl21 : Array (Option Value)} {oc21 kV21 dc21 pm21 cd21 ct21 : Value}
    (a21 : PySem.W.nsIn K mainGlobals "_law_text" = some (some (.ref f21)))
    (l21 : K.lookup f21 = some ⟨oc21, od21, .func (PySem.W.fnOf "_law_text" "_law_text" (defArgs s_law_text) (defBody s_law_text) (defScope s_law_text) .none kV21 dc21 pm21 an21 cd21 ct21), sl21⟩)
    (c21 : PySem.W.codeIn K cd21 "_law_text" = true) (k21 : PySem.W.keepIn K (.ref f21) = true)
    {f22 : Addr} {od22 an22 : Option Addr} {sl22 : Array (Option Value)} {oc22 kV22 dc22 pm22 cd22 ct22 : Value}
    (a22 : PySem.W.nsIn K mainGlobals "law" = some (some (.ref f22)))
    (l22 : K.lookup f22 = some ⟨oc22, od22, .func (PySem.W.fnOf "law" "law" (defArgs s_law) (defBody s_law) (defScope s_law) .none kV22 dc22 pm22 an22 cd22 ct22), sl22⟩)
    (c22 : PySem.W.codeIn K cd22 "law" = true) (k22 : PySem.W.keepIn K (.ref f22) = true)
    (z_len : PySem.W.nsIn K mainGlobals "len" = some none)
    (z_int : PySem.W.nsIn K mainGlobals "int" = some none)
    (z_zip : PySem.W.nsIn K mainGlobals "zip" = some none)
    (z_tuple : PySem.W.nsIn K mainGlobals "tuple" = some none)
    (z_KeyError : PySem.W.nsIn K mainGlobals "KeyError" = some none)
    (z_enumerate : PySem.W.nsIn K mainGlobals "enumerate" = some none)
    (z_isinstance : PySem.W.nsIn K mainGlobals "isinstance" = some none)
    (z_list : PySem.W.nsIn K mainGlobals "list" = some none)
    (z_all : PySem.W.nsIn K mainGlobals "all" = some none)
    (z_bool : PySem.W.nsIn K mainGlobals "bool" = some none)
    (z_str : PySem.W.nsIn K mainGlobals "str" = some none)
    (z_range : PySem.W.nsIn K mainGlobals "range" = some none)
    (z_min : PySem.W.nsIn K mainGlobals "min" = some none)
    {tk_FIGURES : Tok} {x_FIGURES : Str} (g_FIGURES : PySem.W.nsIn K mainGlobals "FIGURES" = some (some (.str x_FIGURES tk_FIGURES)))
    (e_FIGURES : x_FIGURES = ("0123456789" : Str))
    {tk_BOXES : Tok} {x_BOXES : Str} (g_BOXES : PySem.W.nsIn K mainGlobals "BOXES" = some (some (.str x_BOXES tk_BOXES)))
    (e_BOXES : x_BOXES = ("abcdefgh" : Str))
    {tk_MOST_CELLS : Tok} (g_MOST_CELLS : PySem.W.nsIn K mainGlobals "MOST_CELLS" = some (some (.int 20 tk_MOST_CELLS)))
    {tk_MOST_ROWS : Tok} (g_MOST_ROWS : PySem.W.nsIn K mainGlobals "MOST_ROWS" = some (some (.int 60 tk_MOST_ROWS)))
    {tk_MOST_HANDS : Tok} (g_MOST_HANDS : PySem.W.nsIn K mainGlobals "MOST_HANDS" = some (some (.int 8 tk_MOST_HANDS)))
    {q_FORMS : Addr} {es_FORMS : Array DictEntry} {n_FORMS : Nat}
    (h_gc_FORMS : PySem.W.nsIn K mainGlobals "FORMS" = some (some (.ref q_FORMS)))
    (h_ld_FORMS : K.lookup q_FORMS = some ⟨.type "dict", none, .dict es_FORMS n_FORMS, #[]⟩)
    (h_hk_FORMS : PySem.W.KeysLit w.params es_FORMS.toList)
    (h_kv_FORMS : kvB es_FORMS.toList (dctS dct_FORMS) = true)
    (h_lo_FORMS : (q_FORMS == sysModules) = false)
    {q_READERS : Addr} {es_READERS : Array DictEntry} {n_READERS : Nat}
    (h_gc_READERS : PySem.W.nsIn K mainGlobals "READERS" = some (some (.ref q_READERS)))
    (h_ld_READERS : K.lookup q_READERS = some ⟨.type "dict", none, .dict es_READERS n_READERS, #[]⟩)
    (h_hk_READERS : PySem.W.KeysLit w.params es_READERS.toList)
    (h_kv_READERS : kvB es_READERS.toList (dctF rdr_READERS [f2, f1, f4]) = true)
    (h_lo_READERS : (q_READERS == sysModules) = false) :
    ∃ fd : FuncData, (∀ (s : Shared) (v : Value), BindsTo s fd ⟨[v], []⟩ [("script", v)]) ∧ ∀ base : Heap, K.In base → base.Ns mainGlobals mg → FnOk l.prog w K mg base CX0 9 fa fd ["script"] (spLaw K) := by
  have e := hfa.symm.trans (PySem.W.mg_of X G a22)
  cases e
  refine ⟨PySem.W.fnOf "law" "law" (defArgs s_law) (defBody s_law) (defScope s_law) .none kV22 dc22 pm22 an22 cd22 ct22, fun s v => .of_eq rfl, fun base _ _ => ?_⟩
  have gd_FORMS : mg "FORMS" = some (.ref q_FORMS) := PySem.W.mg_of X G h_gc_FORMS
  have kd_FORMS : DctK K w q_FORMS (dctS dct_FORMS) := ⟨⟨_, _, h_ld_FORMS, h_hk_FORMS, h_kv_FORMS⟩, h_lo_FORMS⟩
  have gd_READERS : mg "READERS" = some (.ref q_READERS) := PySem.W.mg_of X G h_gc_READERS
  have kf_READERS : DctK K w q_READERS (dctF rdr_READERS [f2, f1, f4]) := ⟨⟨_, _, h_ld_READERS, h_hk_READERS, h_kv_READERS⟩, h_lo_READERS⟩
  have F1 := fun_mk (st := s_number_of) l1 c1 k1
  have b1 := F1.binds (ps := ["word"]) fun _ _ _ _ _ _ us hl => match us, hl with | [_], _ => rfl
  have F2 := fun_mk (st := s_box_of) l2 c2 k2
  have b2 := F2.binds (ps := ["word"]) fun _ _ _ _ _ _ us hl => match us, hl with | [_], _ => rfl
  have F3 := fun_mk (st := s_plain_of) l3 c3 k3
  have b3 := F3.binds (ps := ["word"]) fun _ _ _ _ _ _ us hl => match us, hl with | [_], _ => rfl
  have F4 := fun_mk (st := s_worth_of) l4 c4 k4
  have b4 := F4.binds (ps := ["word"]) fun _ _ _ _ _ _ us hl => match us, hl with | [_], _ => rfl
  have F5 := fun_mk (st := s_unless_of) l5 c5 k5
  have b5 := F5.binds (ps := ["words"]) fun _ _ _ _ _ _ us hl => match us, hl with | [_], _ => rfl
  have F6 := fun_mk (st := s_row_of) l6 c6 k6
  have b6 := F6.binds (ps := ["words"]) fun _ _ _ _ _ _ us hl => match us, hl with | [_], _ => rfl
  have F7 := fun_mk (st := s_cell_of) l7 c7 k7
  have b7 := F7.binds (ps := ["row"]) fun _ _ _ _ _ _ us hl => match us, hl with | [_], _ => rfl
  have F8 := fun_mk (st := s_cells_of) l8 c8 k8
  have b8 := F8.binds (ps := ["row"]) fun _ _ _ _ _ _ us hl => match us, hl with | [_], _ => rfl
  have F9 := fun_mk (st := s_take_row) l9 c9 k9
  have b9 := F9.binds (ps := ["hands", "words", "many", "at"]) fun _ _ _ _ _ _ us hl => match us, hl with | [_, _, _, _], _ => rfl
  have F10 := fun_mk (st := s_look_at_targets) l10 c10 k10
  have b10 := F10.binds (ps := ["hands"]) fun _ _ _ _ _ _ us hl => match us, hl with | [_], _ => rfl
  have F11 := fun_mk (st := s_read) l11 c11 k11
  have b11 := F11.binds (ps := ["text"]) fun _ _ _ _ _ _ us hl => match us, hl with | [_], _ => rfl
  have F12 := fun_mk (st := s_law_reel) l12 c12 k12
  have b12 := F12.binds (ps := ["script"]) fun _ _ _ _ _ _ us hl => match us, hl with | [_], _ => rfl
  have F13 := fun_mk (st := s_law_draw) l13 c13 k13
  have b13 := F13.binds (ps := ["reel", "many"]) fun _ _ _ _ _ _ us hl => match us, hl with | [_, _], _ => rfl
  have F14 := fun_mk (st := s_law_alike) l14 c14 k14
  have b14 := F14.binds (ps := ["found", "due"]) fun _ _ _ _ _ _ us hl => match us, hl with | [_, _], _ => rfl
  have F15 := fun_mk (st := s_law_plain) l15 c15 k15
  have b15 := F15.binds (ps := ["reel"]) fun _ _ _ _ _ _ us hl => match us, hl with | [_], _ => rfl
  have F16 := fun_mk (st := s_law_worth) l16 c16 k16
  have b16 := F16.binds (ps := ["reel"]) fun _ _ _ _ _ _ us hl => match us, hl with | [_], _ => rfl
  have F17 := fun_mk (st := s_law_row) l17 c17 k17
  have b17 := F17.binds (ps := ["reel", "many", "size"]) fun _ _ _ _ _ _ us hl => match us, hl with | [_, _, _], _ => rfl
  have F18 := fun_mk (st := s_law_program) l18 c18 k18
  have b18 := F18.binds (ps := ["reel"]) fun _ _ _ _ _ _ us hl => match us, hl with | [_], _ => rfl
  have F19 := fun_mk (st := s_law_worth_text) l19 c19 k19
  have b19 := F19.binds (ps := ["told"]) fun _ _ _ _ _ _ us hl => match us, hl with | [_], _ => rfl
  have F20 := fun_mk (st := s_law_row_text) l20 c20 k20
  have b20 := F20.binds (ps := ["row"]) fun _ _ _ _ _ _ us hl => match us, hl with | [_], _ => rfl
  have F21 := fun_mk (st := s_law_text) l21 c21 k21
  have b21 := F21.binds (ps := ["program"]) fun _ _ _ _ _ _ us hl => match us, hl with | [_], _ => rfl
  have F22 := fun_mk (st := s_law) l22 c22 k22
  have b22 := F22.binds (ps := ["script"]) fun _ _ _ _ _ _ us hl => match us, hl with | [_], _ => rfl
  have o1 := ok_number_of (cl := (fun _ => 0)) (P := l.prog) (w := w) (mg := mg) (base := base) F1 (PySem.W.mg_none_of X G z_len) (PySem.W.mg_none_of X G z_int) (e_FIGURES ▸ PySem.W.mg_of X G g_FIGURES)
  have c_number_of : Cal l.prog w K mg base CX0 "number_of" ["word"] 1 (sp_number_of K (fun _ => 0)) f1 _ := ⟨o1, PySem.W.mg_of X G a1, k1, b1⟩
  have o2 := ok_box_of (cl := (fun _ => 0)) (P := l.prog) (w := w) (mg := mg) (base := base) F2 (PySem.W.mg_none_of X G z_len) (e_BOXES ▸ PySem.W.mg_of X G g_BOXES)
  have c_box_of : Cal l.prog w K mg base CX0 "box_of" ["word"] 1 (sp_box_of K (fun _ => 0)) f2 _ := ⟨o2, PySem.W.mg_of X G a2, k2, b2⟩
  have o3 := ok_plain_of (cl := (fun _ => 0)) (P := l.prog) (w := w) (mg := mg) (base := base) F3 c_number_of c_box_of
  have c_plain_of : Cal l.prog w K mg base CX0 "plain_of" ["word"] 2 (sp_plain_of K (fun _ => 0)) f3 _ := ⟨o3, PySem.W.mg_of X G a3, k3, b3⟩
  have o4 := ok_worth_of (cl := (fun _ => 0)) (P := l.prog) (w := w) (mg := mg) (base := base) F4 c_plain_of
  have c_worth_of : Cal l.prog w K mg base CX0 "worth_of" ["word"] 3 (sp_worth_of K (fun _ => 0)) f4 _ := ⟨o4, PySem.W.mg_of X G a4, k4, b4⟩
  have o5 := ok_unless_of (cl := (fun _ => 0)) (P := l.prog) (w := w) (mg := mg) (base := base) F5 c_worth_of c_number_of (PySem.W.mg_none_of X G z_len)
  have c_unless_of : Cal l.prog w K mg base CX0 "unless_of" ["words"] 4 (sp_unless_of K (fun _ => 0)) f5 _ := ⟨o5, PySem.W.mg_of X G a5, k5, b5⟩
  have o6 := ok_row_of (cl := (fun _ => 0)) (P := l.prog) (w := w) (mg := mg) (base := base) F6 c_unless_of c_box_of c_number_of c_worth_of (PySem.W.mg_none_of X G z_len) (PySem.W.mg_none_of X G z_zip) (PySem.W.mg_none_of X G z_tuple) (PySem.W.mg_none_of X G z_KeyError) gd_FORMS kd_FORMS gd_READERS kf_READERS
  have c_row_of : Cal l.prog w K mg base CX0 "row_of" ["words"] 5 (sp_row_of K (fun _ => 0)) f6 _ := ⟨o6, PySem.W.mg_of X G a6, k6, b6⟩
  have o7 := ok_cell_of (cl := (fun _ => 0)) (P := l.prog) (w := w) (mg := mg) (base := base) F7 
  have c_cell_of : Cal l.prog w K mg base CX0 "cell_of" ["row"] 1 (sp_cell_of K (fun _ => 0)) f7 _ := ⟨o7, PySem.W.mg_of X G a7, k7, b7⟩
  have o8 := ok_cells_of (cl := (fun _ => 0)) (P := l.prog) (w := w) (mg := mg) (base := base) F8 c_number_of (PySem.W.mg_none_of X G z_len) (PySem.W.mg_of X G g_MOST_CELLS)
  have c_cells_of : Cal l.prog w K mg base CX0 "cells_of" ["row"] 2 (sp_cells_of K (fun _ => 0)) f8 _ := ⟨o8, PySem.W.mg_of X G a8, k8, b8⟩
  have o9 := ok_take_row (cl := (fun _ => 0)) (P := l.prog) (w := w) (mg := mg) (base := base) F9 c_row_of c_cell_of (PySem.W.mg_none_of X G z_len) (PySem.W.mg_of X G g_MOST_ROWS)
  have c_take_row : Cal l.prog w K mg base CX0 "take_row" ["hands", "words", "many", "at"] 6 (sp_take_row K (fun _ => 0)) f9 _ := ⟨o9, PySem.W.mg_of X G a9, k9, b9⟩
  have o10 := ok_look_at_targets (cl := (fun _ => 0)) (P := l.prog) (w := w) (mg := mg) (base := base) F10 (PySem.W.mg_none_of X G z_len)
  have c_look_at_targets : Cal l.prog w K mg base CX0 "look_at_targets" ["hands"] 1 (sp_look_at_targets K (fun _ => 0)) f10 _ := ⟨o10, PySem.W.mg_of X G a10, k10, b10⟩
  have o11 := ok_read (cl := (fun _ => 0)) (P := l.prog) (w := w) (mg := mg) (base := base) F11 c_cells_of c_take_row c_look_at_targets (PySem.W.mg_none_of X G z_enumerate) (PySem.W.mg_none_of X G z_len) (PySem.W.mg_of X G g_MOST_HANDS)
  have c_read : Cal l.prog w K mg base CX0 "read" ["text"] 7 (sp_read K (fun _ => 0)) f11 _ := ⟨o11, PySem.W.mg_of X G a11, k11, b11⟩
  have o12 := ok_law_reel (cl := (fun _ => 0)) (P := l.prog) (w := w) (mg := mg) (base := base) F12 
  have c_law_reel : Cal l.prog w K mg base CX0 "_law_reel" ["script"] 1 (sp_law_reel K (fun _ => 0)) f12 _ := ⟨o12, PySem.W.mg_of X G a12, k12, b12⟩
  have o13 := ok_law_draw (cl := (fun _ => 0)) (P := l.prog) (w := w) (mg := mg) (base := base) F13 (PySem.W.mg_none_of X G z_int) (PySem.W.mg_none_of X G z_len)
  have c_law_draw : Cal l.prog w K mg base CX0 "_law_draw" ["reel", "many"] 1 (sp_law_draw K (fun _ => 0)) f13 _ := ⟨o13, PySem.W.mg_of X G a13, k13, b13⟩
  have o14 := ok_law_alike (cl := (fun _ => 0)) (P := l.prog) (w := w) (mg := mg) (base := base) F14 (PySem.W.mg_of X G a14) k14 b14 (PySem.W.mg_none_of X G z_isinstance) (PySem.W.mg_none_of X G z_tuple) (PySem.W.mg_none_of X G z_list) (PySem.W.mg_none_of X G z_len) (PySem.W.mg_none_of X G z_zip) (PySem.W.mg_none_of X G z_all) (PySem.W.mg_none_of X G z_bool) (PySem.W.mg_none_of X G z_str) (PySem.W.mg_none_of X G z_int)
  have c_law_alike : Cal l.prog w K mg base CX0 "_law_alike" ["found", "due"] 8 (sp_law_alike K (fun _ => 0)) f14 _ := ⟨o14, PySem.W.mg_of X G a14, k14, b14⟩
  have o15 := ok_law_plain (cl := (fun _ => 0)) (P := l.prog) (w := w) (mg := mg) (base := base) F15 c_law_draw
  have c_law_plain : Cal l.prog w K mg base CX0 "_law_plain" ["reel"] 2 (sp_law_plain K (fun _ => 0)) f15 _ := ⟨o15, PySem.W.mg_of X G a15, k15, b15⟩
  have o16 := ok_law_worth (cl := (fun _ => 0)) (P := l.prog) (w := w) (mg := mg) (base := base) F16 c_law_draw c_law_plain
  have c_law_worth : Cal l.prog w K mg base CX0 "_law_worth" ["reel"] 3 (sp_law_worth K (fun _ => 0)) f16 _ := ⟨o16, PySem.W.mg_of X G a16, k16, b16⟩
  have o17 := ok_law_row (cl := (fun _ => 0)) (P := l.prog) (w := w) (mg := mg) (base := base) F17 c_law_draw c_law_worth
  have c_law_row : Cal l.prog w K mg base CX0 "_law_row" ["reel", "many", "size"] 4 (sp_law_row K (fun _ => 0)) f17 _ := ⟨o17, PySem.W.mg_of X G a17, k17, b17⟩
  have o18 := ok_law_program (cl := (fun _ => 0)) (P := l.prog) (w := w) (mg := mg) (base := base) F18 c_law_draw c_law_row (PySem.W.mg_none_of X G z_int) (PySem.W.mg_none_of X G z_range)
  have c_law_program : Cal l.prog w K mg base CX0 "_law_program" ["reel"] 5 (sp_law_program K (fun _ => 0)) f18 _ := ⟨o18, PySem.W.mg_of X G a18, k18, b18⟩
  have o19 := ok_law_worth_text (cl := (fun _ => 0)) (P := l.prog) (w := w) (mg := mg) (base := base) F19 (PySem.W.mg_none_of X G z_str)
  have c_law_worth_text : Cal l.prog w K mg base CX0 "_law_worth_text" ["told"] 1 (sp_law_worth_text K (fun _ => 0)) f19 _ := ⟨o19, PySem.W.mg_of X G a19, k19, b19⟩
  have o20 := ok_law_row_text (cl := (fun _ => 0)) (P := l.prog) (w := w) (mg := mg) (base := base) F20 c_law_worth_text (PySem.W.mg_none_of X G z_str) (PySem.W.mg_none_of X G z_isinstance) (PySem.W.mg_none_of X G z_tuple)
  have c_law_row_text : Cal l.prog w K mg base CX0 "_law_row_text" ["row"] 2 (sp_law_row_text K (fun _ => 0)) f20 _ := ⟨o20, PySem.W.mg_of X G a20, k20, b20⟩
  have o21 := ok_law_text (cl := (fun _ => 0)) (P := l.prog) (w := w) (mg := mg) (base := base) F21 c_law_row_text (PySem.W.mg_none_of X G z_str)
  have c_law_text : Cal l.prog w K mg base CX0 "_law_text" ["program"] 3 (sp_law_text K (fun _ => 0)) f21 _ := ⟨o21, PySem.W.mg_of X G a21, k21, b21⟩
  have o22 := ok_law (cl := (fun _ => 0)) (P := l.prog) (w := w) (mg := mg) (base := base) F22 c_law_reel c_law_draw c_law_program c_law_text c_read c_law_alike (PySem.W.mg_none_of X G z_len) (PySem.W.mg_none_of X G z_min) (PySem.W.mg_none_of X G z_range) (PySem.W.mg_none_of X G z_list)
  refine FnOk.imp o22 fun vs H Q E hq => ?_
  obtain ⟨a, ns, rfl, hS, hl, q⟩ := hq
  refine ⟨[], H, .ref a, ns, rfl, ⟨Same.refl _, (fun r hr => nomatch hr), List.nodup_nil, (fun r hr => nomatch hr)⟩, ⟨a, _, rfl, ints_dl, .inl hS⟩, run_mono' (law_true hl) fun r hr v H' Ho' e z d => ?_⟩
  subst hr
  rw [d_bool d]
  exact q H'
end M
open PySem PySem.W PyProof.Rows
set_option maxHeartbeats 0 in
theorem PySem.Challenge.cw_fewnotes_k02_rows_read_holds : PySem.Challenge.rw_fewnotes_k02_rows_read.Holds := by
  w_on; o_law; k_head; (case hw => w_witness2)
  k_fill
  refine L2.walk_of (l := PySem.Challenge.rw_fewnotes_k02_rows_read) (n := 63) (k := 9) (x := "script") (CX := fun _ => L2.CX0) (sp := fun w => M.spLaw _) rfl (by decide) rfl ⟨rfl, by decide, by decide⟩ (fun w h Y => PySem.W.kIn_of Y) ?F (fun _ _ a ns hl _ hS => ⟨a, ns, rfl, hS, hl, fun _ => rfl⟩) (fun _ _ _ _ _ h => h)
  case F =>
    intro w mg fa h KX G hmg
    refine' M.all_mk KX G hmg ?a1 ?l1 ?c1 ?k1 ?a2 ?l2 ?c2 ?k2 ?a3 ?l3 ?c3 ?k3 ?a4 ?l4 ?c4 ?k4 ?a5 ?l5 ?c5 ?k5 ?a6 ?l6 ?c6 ?k6 ?a7 ?l7 ?c7 ?k7 ?a8 ?l8 ?c8 ?k8 ?a9 ?l9 ?c9 ?k9 ?a10 ?l10 ?c10 ?k10 ?a11 ?l11 ?c11 ?k11 ?a12 ?l12 ?c12 ?k12 ?a13 ?l13 ?c13 ?k13 ?a14 ?l14 ?c14 ?k14 ?a15 ?l15 ?c15 ?k15 ?a16 ?l16 ?c16 ?k16 ?a17 ?l17 ?c17 ?k17 ?a18 ?l18 ?c18 ?k18 ?a19 ?l19 ?c19 ?k19 ?a20 ?l20 ?c20 ?k20 ?a21 ?l21 ?c21 ?k21 ?a22 ?l22 ?c22 ?k22 ?z_len ?z_int ?z_zip ?z_tuple ?z_KeyError ?z_enumerate ?z_isinstance ?z_list ?z_all ?z_bool ?z_str ?z_range ?z_min ?g_FIGURES ?e_FIGURES ?g_BOXES ?e_BOXES ?g_MOST_CELLS ?g_MOST_ROWS ?g_MOST_HANDS ?h_gc_FORMS ?h_ld_FORMS ?h_hk_FORMS ?h_kv_FORMS ?h_lo_FORMS ?h_gc_READERS ?h_ld_READERS ?h_hk_READERS ?h_kv_READERS ?h_lo_READERS
    (case a1 => k_is); (case l1 => k_is); (case c1 => k_is); (case k1 => k_is); (case a2 => k_is); (case l2 => k_is); (case c2 => k_is); (case k2 => k_is); (case a3 => k_is); (case l3 => k_is); (case c3 => k_is); (case k3 => k_is); (case a4 => k_is); (case l4 => k_is); (case c4 => k_is); (case k4 => k_is); (case a5 => k_is); (case l5 => k_is); (case c5 => k_is); (case k5 => k_is); (case a6 => k_is); (case l6 => k_is); (case c6 => k_is); (case k6 => k_is); (case a7 => k_is); (case l7 => k_is); (case c7 => k_is); (case k7 => k_is); (case a8 => k_is); (case l8 => k_is); (case c8 => k_is); (case k8 => k_is); (case a9 => k_is); (case l9 => k_is); (case c9 => k_is); (case k9 => k_is); (case a10 => k_is); (case l10 => k_is); (case c10 => k_is); (case k10 => k_is); (case a11 => k_is); (case l11 => k_is); (case c11 => k_is); (case k11 => k_is); (case a12 => k_is); (case l12 => k_is); (case c12 => k_is); (case k12 => k_is); (case a13 => k_is); (case l13 => k_is); (case c13 => k_is); (case k13 => k_is); (case a14 => k_is); (case l14 => k_is); (case c14 => k_is); (case k14 => k_is); (case a15 => k_is); (case l15 => k_is); (case c15 => k_is); (case k15 => k_is); (case a16 => k_is); (case l16 => k_is); (case c16 => k_is); (case k16 => k_is); (case a17 => k_is); (case l17 => k_is); (case c17 => k_is); (case k17 => k_is); (case a18 => k_is); (case l18 => k_is); (case c18 => k_is); (case k18 => k_is); (case a19 => k_is); (case l19 => k_is); (case c19 => k_is); (case k19 => k_is); (case a20 => k_is); (case l20 => k_is); (case c20 => k_is); (case k20 => k_is); (case a21 => k_is); (case l21 => k_is); (case c21 => k_is); (case k21 => k_is); (case a22 => k_is); (case l22 => k_is); (case c22 => k_is); (case k22 => k_is); (case z_len => k_is); (case z_int => k_is); (case z_zip => k_is); (case z_tuple => k_is); (case z_KeyError => k_is); (case z_enumerate => k_is); (case z_isinstance => k_is); (case z_list => k_is); (case z_all => k_is); (case z_bool => k_is); (case z_str => k_is); (case z_range => k_is); (case z_min => k_is); (case g_FIGURES => k_is); (case e_FIGURES => decide +kernel); (case g_BOXES => k_is); (case e_BOXES => decide +kernel); (case g_MOST_CELLS => k_is); (case g_MOST_ROWS => k_is); (case g_MOST_HANDS => k_is); (case h_gc_FORMS => k_is); (case h_ld_FORMS => k_is); (case h_hk_FORMS => k_keys); (case h_kv_FORMS => first | kernel_rfl | rfl); (case h_lo_FORMS => decide +kernel); (case h_gc_READERS => k_is); (case h_ld_READERS => k_is); (case h_hk_READERS => k_keys); (case h_kv_READERS => first | kernel_rfl | rfl); (case h_lo_READERS => decide +kernel)

