import PyProof.Rows.All
import Wide.All
import OpenK.AllK
import Wide.FinOn
import HandS.ForMost
import HandS.ForExc
import HandS.Wide
import HandS.IsInst
import HandS.Deep
import HandS.SortKw
import HandS.SortRule
import HandS.TupSets
import HandS.ExcIs
import HandS.TryMany
import HandS.StrMore
import HandS.FStr
import HandS.Strs
import HandS.SetFor
import HandS.ListItems
import HandS.SetKeys
import HandS.TupAny
import HandS.Defaults
import KE.DatumOrd
import HandS.SortInts
import HandS.Conv
import HandS.More
import KE.KDictKeyed
import HandS.Style
import HandS.Iter
import HandS.NoneIn
import OpenK.KOps
import KE.KCallOwn
import HandS.SlotsOwn
import HandS.RaiseMore
import PyProof.InstNe
import HandS.ExcOwn
import HandS.Replace
import HandS.MakeKw
import HandS.Zip
import KE.DataMinKey
import KE.KDictDisplayH
import KE.DataFind
import PyProof.SeqI3
import PyProof.ListRange
import HandS.RevRange
import PyProof.ZipIter
import PyProof.SumAny
import PyProof.Rows.SeqMore
import HandS.ExcInit
import HandS.ExcField
import HandS.ExcValue
import HandS.Lambda
import KE.KNest
import KE.KNestM
import HandS.EndTab
import PySem.Challenge.RW_fewnotes_k50_replays_made
set_option Elab.async false
set_option linter.all false
set_option maxRecDepth 100000
set_option maxHeartbeats 4000000
namespace Z
open PySem PySem.Spec PyProof.Rows L2
/-! ### computations by what they promise -/
structure Er where
  cls : Nat
  arg : PyData := .none
structure W (α : Type) where
  go : (α → Prop) → Prop
  mono0 : ∀ (Φ Φ' : α → Prop), (∀ a, Φ a → Φ' a) → go Φ → go Φ'
/-- no projection: two runs are compared by their parts first -/
def W.run {α : Type} (c : W α) (Φ : α → Prop) : Prop := c.go Φ
theorem W.mono {α : Type} (c : W α) (Φ Φ' : α → Prop) (h : ∀ a, Φ a → Φ' a) (q : c.run Φ) : c.run Φ' := c.mono0 Φ Φ' h q
namespace W
variable {α β γ : Type}
def ret (a : α) : W α := ⟨fun Φ => Φ a, fun _ _ h q => h a q⟩
def bind (c : W α) (f : α → W β) : W β := ⟨fun Φ => c.run (fun a => (f a).run Φ), fun Φ Φ' h q => c.mono _ _ (fun a z => (f a).mono _ _ h z) q⟩
def guard (p : Prop) (c : W α) : W α := ⟨fun Φ => p ∧ c.run Φ, fun _ _ h q => ⟨q.1, c.mono _ _ h q.2⟩⟩
def ite (b : Bool) (x y : W α) : W α := ⟨fun Φ => (b = true → x.run Φ) ∧ (b = false → y.run Φ), fun _ _ h q => ⟨fun e => x.mono _ _ h (q.1 e), fun e => y.mono _ _ h (q.2 e)⟩⟩
def opt (o : Option α) : W α := ⟨fun Φ => ∃ a, o = some a ∧ Φ a, fun _ _ h ⟨a, e, q⟩ => ⟨a, e, h a q⟩⟩
def bad : W α := ⟨fun _ => False, fun _ _ _ q => q⟩
end W
/-- an answer, or an error -/
inductive Ex (α : Type) where
  | ok (a : α) | er (e : Er)
/-- how a loop's turn ends -/
inductive Ctl (ρ S : Type) where
  | nx (s : S) | bk (s : S) | rt (r : ρ)
def CtlP {ρ S : Type} (N B : S → Prop) (Φ : ρ → Prop) : Ctl ρ S → Prop
  | .nx s => N s
  | .bk s => B s
  | .rt r => Φ r
theorem ctl_nx {ρ S : Type} {N B : S → Prop} {Φ : ρ → Prop} {s : S} (h : CtlP N B Φ (.nx s)) : N s := h
theorem ctl_bk {ρ S : Type} {N B : S → Prop} {Φ : ρ → Prop} {s : S} (h : CtlP N B Φ (.bk s)) : B s := h
theorem ctl_rt {ρ S : Type} {N B : S → Prop} {Φ : ρ → Prop} {r : ρ} (h : CtlP N B Φ (.rt r)) : Φ r := h
namespace W
variable {α β γ ρ S : Type}
def forL : List α → S → (α → S → W S) → W S
  | [], s, _ => ret s
  | x :: xs, s, f => bind (f x s) fun s' => forL xs s' f
/-- a loop that may be left -/
def forC : List α → S → (α → S → W (Ctl ρ S)) → W (Ctl ρ S)
  | [], s, _ => ret (.nx s)
  | x :: xs, s, f => bind (f x s) fun c => match c with
    | .nx s' => forC xs s' f
    | .bk s' => ret (.nx s')
    | .rt r => ret (.rt r)
def bind2 {α β γ : Type} (c : W (α × β)) (f : α → β → W γ) : W γ := ⟨fun Φ => c.run fun r => (f r.1 r.2).run Φ, fun Φ Φ' h q => c.mono _ _ (fun a z => (f a.1 a.2).mono _ _ h z) q⟩
def after (c : Ctl ρ S) (k : S → W ρ) : W ρ := match c with
  | .nx s => k s
  | .bk s => k s
  | .rt r => ret r
/-- a while loop: a turn tells whether it is left (bk) -/
def whileN : Nat → S → (S → W (Ctl ρ S)) → W (Ctl ρ S)
  | 0, _, _ => bad
  | n + 1, s, f => bind (f s) fun c => match c with
    | .nx s' => whileN n s' f
    | .bk s' => ret (.nx s')
    | .rt r => ret (.rt r)
def whileL (s : S) (f : S → W (Ctl ρ S)) : W (Ctl ρ S) := ⟨fun Φ => ∃ n, (whileN n s f).run Φ, fun _ _ h ⟨n, q⟩ => ⟨n, (whileN n s f).mono _ _ h q⟩⟩
end W
/-! ### data -/
class Py (α : Type) where
  toPy : α → PyData
abbrev toPy {α : Type} [Py α] (a : α) : PyData := Py.toPy a
structure P3 (α β γ : Type) where
  a : α
  b : β
  c : γ
  deriving DecidableEq
structure P4 (α β γ δ : Type) where
  a : α
  b : β
  c : γ
  d : δ
  deriving DecidableEq
structure P5 (α β γ δ ε : Type) where
  a : α
  b : β
  c : γ
  d : δ
  e : ε
  deriving DecidableEq
/-- a tuple of things of one kind -/
structure Tp (α : Type) where
  l : List α
  deriving DecidableEq
instance : Py Int := ⟨.int⟩
instance : Py Bool := ⟨.bool⟩
instance : Py Str := ⟨.str⟩
instance : Py Unit := ⟨fun _ => .none⟩
instance : Py PyData := ⟨id⟩
instance {α : Type} [Py α] : Py (Option α) := ⟨fun o => match o with | none => .none | some a => toPy a⟩
instance {α : Type} [Py α] : Py (List α) := ⟨fun xs => .list (xs.map Py.toPy)⟩
instance {α : Type} [Py α] : Py (Tp α) := ⟨fun xs => .tuple (xs.l.map Py.toPy)⟩
instance {α β : Type} [Py α] [Py β] : Py (α × β) := ⟨fun p => .tuple [toPy p.1, toPy p.2]⟩
instance {α β γ : Type} [Py α] [Py β] [Py γ] : Py (P3 α β γ) := ⟨fun p => .tuple [toPy p.a, toPy p.b, toPy p.c]⟩
instance {α β γ δ : Type} [Py α] [Py β] [Py γ] [Py δ] : Py (P4 α β γ δ) := ⟨fun p => .tuple [toPy p.a, toPy p.b, toPy p.c, toPy p.d]⟩
instance {α β γ δ ε : Type} [Py α] [Py β] [Py γ] [Py δ] [Py ε] : Py (P5 α β γ δ ε) := ⟨fun p => .tuple [toPy p.a, toPy p.b, toPy p.c, toPy p.d, toPy p.e]⟩
/-! a value is data; each tuple is tracked -/
mutual
inductive Dq (K : PySem.W.Frag) (H : Hp) : V → PyData → Prop
  | non : Dq K H .non .none
  | bl (b : Bool) : Dq K H (.bl b) (.bool b)
  | int (i : Int) : Dq K H (.int i) (.int i)
  | str (x : Str) : Dq K H (.str x) (.str x)
  | lst {a : Addr} {vs : List V} {ds : List PyData} (hs : SqL K H a vs) (hd : DqAll K H vs ds) : Dq K H (.ref a) (.list ds)
  | tup {a : Addr} {vs : List V} {ds : List PyData} (hs : H a = some (.tup vs)) (hd : DqAll K H vs ds) : Dq K H (.ref a) (.tuple ds)
  /-- an instance of a class of the text that stands for good -/
  | ins {a dx C : Addr} {cn : Str} {ns : List Str} {vs : List V} {ds : List PyData} (hC : PySem.W.nsIn K mainGlobals cn = some (some (.ref C))) (hs : H a = some (.ins C dx (ns.zip vs))) (hd : DqAll K H vs ds) : Dq K H (.ref a) (.dict [(.str cn, .list (ns.map .str)), (.none, .tuple ds)])
inductive DqAll (K : PySem.W.Frag) (H : Hp) : List V → List PyData → Prop
  | nil : DqAll K H [] []
  | cons {v : V} {vs : List V} {d : PyData} {ds : List PyData} (h : Dq K H v d) (hs : DqAll K H vs ds) : DqAll K H (v :: vs) (d :: ds)
end
section
variable {K : PySem.W.Frag} {H H' : Hp}
mutual
theorem dp_mono (e : Same H H') : ∀ (d : PyData) (v : V), Dq K H v d → Dq K H' v d
  | _, _, .non => .non
  | _, _, .bl b => .bl b
  | _, _, .int i => .int i
  | _, _, .str x => .str x
  | _, _, .lst hs ha => .lst (e.seq hs) (dpAll_mono e _ _ ha)
  | _, _, .tup hs ha => .tup (e _ _ hs) (dpAll_mono e _ _ ha)
  | _, _, .ins hC hs ha => .ins hC (e _ _ hs) (dpAll_mono e _ _ ha)
theorem dpAll_mono (e : Same H H') : ∀ (ds : List PyData) (vs : List V), DqAll K H vs ds → DqAll K H' vs ds
  | _, _, .nil => .nil
  | _, _, .cons h1 h2 => .cons (dp_mono e _ _ h1) (dpAll_mono e _ _ h2)
end
mutual
theorem Dq.dp : ∀ (d : PyData) (v : V), d.canLay0 = true → Dq K H v d → Dp K H v d
  | _, _, _, .non => .non
  | _, _, _, .bl b => .bl b
  | _, _, _, .int i => .int i
  | _, _, _, .str x => .str x
  | _, _, g, .lst hs ha => .lst hs (DqAll.dp _ _ (by simpa [PyData.canLay0] using g) ha)
  | _, _, g, .tup hs ha => .tup (SqT.of hs) (DqAll.dp _ _ (by simpa [PyData.canLay0] using g) ha)
  | _, _, g, .ins _ _ _ => by simp [PyData.canLay0] at g
theorem DqAll.dp : ∀ (ds : List PyData) (vs : List V), PyData.canLayAll0 ds = true → DqAll K H vs ds → DpAll K H vs ds
  | _, _, _, .nil => .nil
  | d :: ds, _, g, .cons h1 h2 => by
    have g' : PyData.canLay0 d = true ∧ PyData.canLayAll0 ds = true := by simpa [PyData.canLayAll0] using g
    exact .cons (Dq.dp _ _ g'.1 h1) (DqAll.dp _ _ g'.2 h2)
end
theorem shp {d : PyData} (h : SeqAt.shaped d = true) : d.canLay0 = true := by
  unfold SeqAt.shaped at h
  exact (Bool.and_eq_true _ _ ▸ h).1
end
section
variable {K : PySem.W.Frag} {H H' : Hp} {α : Type} [Py α]
abbrev D (K : PySem.W.Frag) (H : Hp) (v : V) (x : α) : Prop := Dq K H v (toPy x)
abbrev DL (K : PySem.W.Frag) (H : Hp) (vs : List V) (xs : List α) : Prop := DqAll K H vs (xs.map Py.toPy)
theorem D.mo {v : V} {x : α} (h : D K H v x) (e : Same H H') : D K H' v x := dp_mono e _ _ h
theorem DL.mo {vs : List V} {xs : List α} (h : DL K H vs xs) (e : Same H H') : DL K H' vs xs := dpAll_mono e _ _ h
theorem d_int {v : V} {i : Int} (h : D K H v i) : v = .int i := by cases h; rfl
theorem d_bool {v : V} {i : Bool} (h : D K H v i) : v = .bl i := by cases h; rfl
theorem d_str {v : V} {i : Str} (h : D K H v i) : v = .str i := by cases h; rfl
theorem dpAll_len {vs : List V} : ∀ {ds : List PyData}, DqAll K H vs ds → vs.length = ds.length := by
  induction vs with
  | nil => intro ds h; cases h; rfl
  | cons v vs ih => intro ds h; cases h with | cons h1 h2 => simp [ih h2]
theorem DL.len {vs : List V} {xs : List α} (h : DL K H vs xs) : vs.length = xs.length := by
  have := dpAll_len h
  simpa using this
theorem dpAll_get {vs : List V} : ∀ {ds : List PyData} {i : Nat} {d : PyData}, DqAll K H vs ds → ds[i]? = some d → ∃ v, vs[i]? = some v ∧ Dq K H v d := by
  induction vs with
  | nil => intro ds i d h e; cases h; simp at e
  | cons v vs ih =>
    intro ds i d h e
    cases h with
    | cons h1 h2 =>
      cases i with
      | zero => simp at e; subst e; exact ⟨v, rfl, h1⟩
      | succ i => simpa using ih h2 (by simpa using e)
theorem DL.get {vs : List V} {xs : List α} {i : Nat} {x : α} (h : DL K H vs xs) (e : xs[i]? = some x) : ∃ v, vs[i]? = some v ∧ D K H v x :=
  dpAll_get h (by simp [e])
theorem DL.at {vs : List V} {xs : List α} {i : Int} {x : α} (h : DL K H vs xs) (e : atI xs i = some x) : ∃ v, atI vs i = some v ∧ D K H v x := by
  unfold atI at e ⊢
  rw [h.len]
  cases q : ixN xs.length i with
  | none => rw [q] at e; cases e
  | some j =>
    rw [q] at e
    exact h.get e
theorem dpAll_append {vs ws : List V} {ds es : List PyData} (h : DqAll K H vs ds) (h' : DqAll K H ws es) : DqAll K H (vs ++ ws) (ds ++ es) := by
  induction vs generalizing ds with
  | nil => cases h; exact h'
  | cons v vs ih => cases h with | cons h1 h2 => exact .cons h1 (ih h2)
theorem DL.append {vs ws : List V} {xs ys : List α} (h : DL K H vs xs) (h' : DL K H ws ys) : DL K H (vs ++ ws) (xs ++ ys) := by
  unfold DL; rw [List.map_append]; exact dpAll_append h h'
theorem DL.push {vs : List V} {xs : List α} {v : V} {x : α} (h : DL K H vs xs) (h' : D K H v x) : DL K H (vs ++ [v]) (xs ++ [x]) :=
  h.append (.cons h' .nil)
theorem dpAll_set {vs : List V} {ds : List PyData} {v : V} {d : PyData} (h : DqAll K H vs ds) (h' : Dq K H v d) (j : Nat) : DqAll K H (vs.set j v) (ds.set j d) := by
  induction vs generalizing ds j with
  | nil => cases h; exact .nil
  | cons u vs ih =>
    cases h with
    | cons h1 h2 =>
      cases j with
      | zero => exact .cons h' h2
      | succ j => exact .cons h1 (ih h2 j)
theorem DL.set {vs : List V} {xs : List α} {v : V} {x : α} (h : DL K H vs xs) (h' : D K H v x) (j : Nat) : DL K H (vs.set j v) (xs.set j x) := by
  unfold DL; rw [List.map_set]; exact dpAll_set h h' j
theorem dpAll_take {vs : List V} {ds : List PyData} (h : DqAll K H vs ds) (n : Nat) : DqAll K H (vs.take n) (ds.take n) := by
  induction n generalizing vs ds with
  | zero => exact .nil
  | succ n ih => cases h with | nil => exact .nil | cons h1 h2 => exact .cons h1 (ih h2)
theorem dpAll_drop {vs : List V} {ds : List PyData} (h : DqAll K H vs ds) (n : Nat) : DqAll K H (vs.drop n) (ds.drop n) := by
  induction n generalizing vs ds with
  | zero => exact h
  | succ n ih => cases h with | nil => exact .nil | cons h1 h2 => exact ih h2
def cut {α : Type} (xs : List α) (lo hi : Option Int) : List α := (xs.drop (HT.sIx xs.length 0 lo)).take (HT.sIx xs.length xs.length hi - HT.sIx xs.length 0 lo)
theorem DL.cut {vs : List V} {xs : List α} (h : DL K H vs xs) (lo hi : Option Int) : DL K H (cutV vs lo hi) (Z.cut xs lo hi) := by
  unfold DL cutV Z.cut
  rw [List.map_take, List.map_drop, h.len]
  exact dpAll_take (dpAll_drop h _) _
theorem dl_ints {vs : List V} : ∀ {xs : List Int}, DL K H vs xs → vs = xs.map V.int := by
  induction vs with
  | nil => intro xs h; cases xs with | nil => rfl | cons x xs => cases h
  | cons v vs ih =>
    intro xs h
    cases xs with
    | nil => cases h
    | cons x xs => cases h with | cons h1 h2 => rw [ih h2, d_int h1]; rfl
theorem dl_bools {vs : List V} : ∀ {xs : List Bool}, DL K H vs xs → vs = xs.map V.bl := by
  induction vs with
  | nil => intro xs h; cases xs with | nil => rfl | cons x xs => cases h
  | cons v vs ih =>
    intro xs h
    cases xs with
    | nil => cases h
    | cons x xs => cases h with | cons h1 h2 => rw [ih h2, d_bool h1]; rfl
theorem ints_dl : ∀ {xs : List Int}, DL K H (xs.map V.int) xs
  | [] => .nil
  | x :: xs => .cons (.int x) ints_dl
end
/-! ### the state: what stands for good (Ho), what may be written (rs) -/
/-- no tuple: tuples never change, so that none is written -/
def NotTup : HO → Prop
  | .tup _ => False
  | _ => True
structure Zs (rs : List (Addr × HO)) (H Ho : Hp) : Prop where
  le : Same Ho H
  rt : ∀ r ∈ rs, H r.1 = some r.2 ∧ Ho r.1 = none
  nd : (rs.map (·.1)).Nodup
  nt : ∀ r ∈ rs, NotTup r.2
section
variable {K : PySem.W.Frag} {H Ho H' Ho' : Hp} {rs : List (Addr × HO)} {p q : Addr} {o o' : HO}
theorem Zs.free (z : Zs rs H Ho) (h : H q = none) : Ho q = none := z.le.free h
theorem Zs.nin (z : Zs rs H Ho) (h : H q = none) : ∀ r ∈ rs, r.1 ≠ q := fun r hr e => by
  have := (z.rt r hr).1
  rw [e, h] at this
  cases this
/-- a new object that stays -/
theorem Zs.alloc (z : Zs rs H Ho) (h : H q = none) : Zs rs (upd H q o) (upd Ho q o) :=
  ⟨fun b x e => by
    by_cases hb : b = q
    · subst hb; rw [upd_same] at e ⊢; exact e
    · rw [upd_ne hb] at e ⊢; exact z.le b x e,
   fun r hr => by
    have ne := z.nin h r hr
    rw [upd_ne ne, upd_ne ne]; exact z.rt r hr, z.nd, z.nt⟩
theorem Same.new (h : Ho q = none) : Same Ho (upd Ho q o) := fun b x e => by
  rw [upd_ne (ne_of_none e h)]; exact e
/-- a new object that may be written -/
theorem Zs.root (z : Zs rs H Ho) (h : H q = none) (hn : NotTup o := by exact trivial) : Zs ((q, o) :: rs) (upd H q o) Ho :=
  ⟨fun b x e => by
    rw [upd_ne (ne_of_none (z.le b x e) h)]; exact z.le b x e,
   fun r hr => by
    rcases List.mem_cons.mp hr with e | hr
    · subst e; exact ⟨upd_same, z.free h⟩
    · rw [upd_ne (z.nin h r hr)]; exact z.rt r hr,
   List.nodup_cons.mpr ⟨fun hm => by
    obtain ⟨r, hr, e⟩ := List.mem_map.mp hm
    exact z.nin h r hr e, z.nd⟩, fun r hr => by
    rcases List.mem_cons.mp hr with e | hr
    · subst e; exact hn
    · exact z.nt r hr⟩
theorem Zs.put (z : Zs ((p, o) :: rs) H Ho) (hn : NotTup o' := by exact trivial) : Zs ((p, o') :: rs) (upd H p o') Ho :=
  ⟨fun b x e => by
    have np : b ≠ p := fun e' => by subst e'; rw [(z.rt _ List.mem_cons_self).2] at e; cases e
    rw [upd_ne np]; exact z.le b x e,
   fun r hr => by
    rcases List.mem_cons.mp hr with e | hr
    · subst e; exact ⟨upd_same, (z.rt _ List.mem_cons_self).2⟩
    · have np : r.1 ≠ p := fun e' => by
        have := (List.nodup_cons.mp z.nd).1
        exact this (List.mem_map.mpr ⟨r, hr, e'⟩)
      rw [upd_ne np]; exact z.rt r (List.mem_cons_of_mem _ hr), z.nd, fun r hr => by
    rcases List.mem_cons.mp hr with e | hr
    · subst e; exact hn
    · exact z.nt r (List.mem_cons_of_mem _ hr)⟩
theorem Zs.tail (z : Zs ((p, o) :: rs) H Ho) : Zs rs H Ho :=
  ⟨z.le, fun r hr => z.rt r (List.mem_cons_of_mem _ hr), (List.nodup_cons.mp z.nd).2, fun r hr => z.nt r (List.mem_cons_of_mem _ hr)⟩
theorem Zs.head (z : Zs ((p, o) :: rs) H Ho) : H p = some o := (z.rt _ List.mem_cons_self).1
theorem Zs.headN (z : Zs ((p, o) :: rs) H Ho) : Ho p = none := (z.rt _ List.mem_cons_self).2
/-- what may be written stands for good from now on -/
theorem Zs.freeze (z : Zs ((p, o) :: rs) H Ho) : Zs rs H (upd Ho p o) :=
  ⟨fun b x e => by
    by_cases hb : b = p
    · subst hb; rw [upd_same] at e; rw [← e]; exact z.head
    · rw [upd_ne hb] at e; exact z.le b x e,
   fun r hr => by
    have np : r.1 ≠ p := fun e' => (List.nodup_cons.mp z.nd).1 (List.mem_map.mpr ⟨r, hr, e'⟩)
    rw [upd_ne np]; exact z.rt r (List.mem_cons_of_mem _ hr), (List.nodup_cons.mp z.nd).2, fun r hr => z.nt r (List.mem_cons_of_mem _ hr)⟩
theorem Zs.perm {rs' : List (Addr × HO)} (z : Zs rs H Ho) (h : rs.Perm rs') : Zs rs' H Ho :=
  ⟨z.le, fun r hr => z.rt r (h.mem_iff.mpr hr), (h.map _).nodup_iff.mp z.nd, fun r hr => z.nt r (h.mem_iff.mpr hr)⟩
theorem perm1 {α : Type} {a b : α} {l : List α} : (a :: b :: l).Perm (b :: a :: l) := List.Perm.swap b a l
theorem Zs.sw1 {a b : Addr × HO} (z : Zs (a :: b :: rs) H Ho) : Zs (b :: a :: rs) H Ho := z.perm perm1
end
/-- a list that is read -/
def LV {α : Type} [Py α] (K : PySem.W.Frag) (rs : List (Addr × HO)) (Ho : Hp) (v : V) (xs : List α) : Prop :=
  ∃ p vs, v = .ref p ∧ DL K Ho vs xs ∧ (SqL K Ho p vs ∨ (p, HO.lst vs) ∈ rs)
section
variable {K : PySem.W.Frag} {H Ho H' Ho' : Hp} {rs rs' : List (Addr × HO)} {α : Type} [Py α] {v : V} {xs : List α}
theorem LV.mo (h : LV K rs Ho v xs) (e : Same Ho Ho') : LV K rs Ho' v xs := by
  obtain ⟨p, vs, rfl, d, s⟩ := h
  exact ⟨p, vs, rfl, DL.mo d e, s.imp (fun s => e.seq s) id⟩
theorem LV.sub (h : LV K rs Ho v xs) (e : ∀ r ∈ rs, r ∈ rs') : LV K rs' Ho v xs := by
  obtain ⟨p, vs, rfl, d, s⟩ := h
  exact ⟨p, vs, rfl, d, s.imp id (e _)⟩
theorem LV.cons {r : Addr × HO} (h : LV K rs Ho v xs) : LV K (r :: rs) Ho v xs := h.sub fun _ m => List.mem_cons_of_mem _ m
theorem LV.of (h : D K Ho v xs) : LV K rs Ho v xs := by
  cases h with
  | lst hs ha => exact ⟨_, _, rfl, ha, .inl hs⟩
theorem LV.rd (h : LV K rs Ho v xs) (z : Zs rs H Ho) : ∃ p vs, v = .ref p ∧ DL K Ho vs xs ∧ SqL K H p vs := by
  obtain ⟨p, vs, rfl, d, s⟩ := h
  refine ⟨p, vs, rfl, d, ?_⟩
  rcases s with s | s
  · exact z.le.seq s
  · exact SqL.of (z.rt _ s).1
theorem LV.dp (h : LV K rs Ho v xs) (z : Zs rs H Ho) : D K H v xs := by
  obtain ⟨p, vs, rfl, d, s⟩ := h.rd z
  exact .lst s (DL.mo d z.le)
end
/-! ### more rules of the machine -/
section
variable {X : Cx}
def rCatS (K : PySem.W.Frag) : R2 := fun x y H Q => ∃ l b xs zs, x = .ref l ∧ y = .ref b ∧ SqL K H l xs ∧ SqL K H b zs ∧ xs.length + zs.length ≤ sizeLine ∧ ∀ p, H p = none → Q (.ref p) (upd H p (.lst (xs ++ zs)))
theorem op_catS : OpR X (binaryOp .Add) (rCatS X.K) := by
  intro pins s σ H x y v u Q I rx ry h
  obtain ⟨l, b, xs, zs, rfl, rfl, hH, hB, hz, q⟩ := h
  cases rx
  cases ry
  obtain ⟨its, r, pl, _⟩ := I.list hH
  obtain ⟨its2, r2, pl2, _⟩ := I.list hB
  have hl := r.length
  have hl2 := r2.length
  obtain ⟨⟨cls, dd, data, sl⟩, ho, hc, n, hd⟩ := pl.isList
  obtain ⟨⟨cls2, dd2, data2, sl2⟩, ho2, hc2, n2, hd2⟩ := pl2.isList
  simp only at hc hd hc2 hd2
  subst hc hd hc2 hd2
  have ea : its.toArray ++ its2.toArray = (its ++ its2).toArray := by simp
  refine concat_meets ⟨_, ho, rfl⟩ ⟨_, ho2, rfl⟩ noFill_list_add seq_list_add PySem.F.slot_list_add PySem.F.entry_list_add (PySem.F.args_list_add_2 _ _) (list_addW l b its.toArray its2.toArray n n2 dd dd2 sl sl2 (by simp only [List.size_toArray]; omega)) ⟨ho, ho2, ?_⟩
  rw [ea]
  exact ⟨.ref _, _, I.lnew (t' := s.toks) (r.append r2) (by rw [List.length_append]; omega), rfl, q _ I.fresh⟩
/-- xs[i] as the old value of xs[i] op= e -/
theorem get_list : PGet X (rIxL X.K) := by
  intro pins s σ H o i ov iv Q I ro ri h
  obtain ⟨p, xs, i, z, rfl, rfl, hq, he, q⟩ := h
  cases ro
  obtain ⟨t, rfl⟩ := ri
  obtain ⟨its, r, pl, hz⟩ := I.list hq
  obtain ⟨j, h1, h2, h3, h4, h5⟩ := atI_get he
  obtain ⟨w, ew, rw'⟩ := r.get h2
  have hl := r.length
  have hn := line63
  have fin : EP X pins σ Q w s := ⟨z, H, I, rw', q⟩
  by_cases h0 : 0 ≤ i
  · have hj : i.toNat = j := by
      rw [seqIndex_of h0 h5] at h1
      exact Option.some.inj h1
    exact wpAny_getItem_list pl.isList h0 (by omega) (by rw [hj]; simpa using ew) fin
  · have hj : (i + (its.toArray.size : Int)).toNat = j := by
      rw [seqIndex_neg (by omega) h4] at h1
      rw [List.size_toArray, ← hl]
      exact Option.some.inj h1
    exact wpAny_getItem_list_neg pl.isList (by omega) (by rw [List.size_toArray] <;> omega) (by omega) (by rw [hj]; simpa using ew) fin
end
end Z
/-! # Y1: readings step by step -/
namespace Z
open PySem PySem.Spec PyProof.Rows L2
/-! ### roots -/
theorem Zs.putI {rs : List (Addr × HO)} {H Ho : Hp} {n : Nat} {p : Addr} {o o' : HO} (z : Zs rs H Ho) (h : rs[n]? = some (p, o)) (hn : NotTup o' := by exact trivial) : Zs (rs.set n (p, o')) (upd H p o') Ho := by
  have hp := z.rt (p, o) (List.mem_of_getElem? h)
  have idx : ∀ m r, rs[m]? = some r → r.1 = p → m = n := fun m r hm e => by
    have h1 : (rs.map (·.1))[m]? = some p := by rw [List.getElem?_map, hm]; exact congrArg some e
    have h2 : (rs.map (·.1))[n]? = some p := by rw [List.getElem?_map, h]; rfl
    exact nd_ix z.nd h1 h2
  refine ⟨fun b x e => ?_, fun r hr => ?_, ?_, fun r hr => ?_⟩
  · have np : b ≠ p := fun e' => by subst e'; rw [hp.2] at e; cases e
    rw [upd_ne np]; exact z.le b x e
  · obtain ⟨m, hm⟩ := List.mem_iff_getElem?.mp hr
    rw [List.getElem?_set] at hm
    by_cases c : n = m
    · rw [if_pos c] at hm
      split at hm
      · cases hm; exact ⟨upd_same, hp.2⟩
      · cases hm
    · rw [if_neg c] at hm
      have np : r.1 ≠ p := fun e => c (idx m r hm e).symm
      rw [upd_ne np]; exact z.rt r (List.mem_of_getElem? hm)
  · have e : (rs.set n (p, o')).map (·.1) = rs.map (·.1) := by
      rw [List.map_set]
      apply List.ext_getElem?
      intro m
      rw [List.getElem?_set]
      split
      · rename_i c
        subst c
        rw [List.getElem?_map, h]
        have hl : n < (rs.map (·.1)).length := by rw [List.length_map]; exact (List.getElem?_eq_some_iff.mp h).1
        rw [if_pos hl]; rfl
      · rfl
    rw [e]; exact z.nd
  · rcases List.mem_or_eq_of_mem_set hr with q | q
    · exact z.nt r q
    · subst q; exact hn
theorem Zs.sub {rs rs' : List (Addr × HO)} {H Ho : Hp} (z : Zs rs H Ho) (h : rs'.Sublist rs) : Zs rs' H Ho :=
  ⟨z.le, fun r hr => z.rt r (h.subset hr), (h.map _).nodup z.nd, fun r hr => z.nt r (h.subset hr)⟩
section
variable {K : PySem.W.Frag} {rs r0 : List (Addr × HO)} {σ : L2.St} {H Ho : Hp} {ta tb tc te : TE} {tt tu : TT} {ts : TA} {Q : VK} {QB : Bool → Hp → Prop} {u t1 t2 : TS} {D : Ends} {v w : V} {i : Nat} {α β γ : Type} [Py α] [Py β] {Φ : γ → Prop} {p : Addr}
theorem frz {ws : List V} {xs : List α} (z : Zs ((p, .lst ws) :: rs) H Ho) (d : DL K Ho ws xs) : ∃ Ho', Same Ho Ho' ∧ Zs rs H Ho' ∧ Z.D K Ho' (.ref p) xs := by
  have e : Same Ho (upd Ho p (.lst ws)) := Same.new z.headN
  exact ⟨_, e, z.freeze, .lst (SqL.of upd_same) (DL.mo d e)⟩
/-! ### expressions -/
theorem y_var (h : σ[i]? = some (some v)) (k : Q v H) : tVar i σ H Q := ⟨v, h, k⟩
theorem y_c (k : Q v H) : tC v σ H Q := k
theorem y_op {r : R2} (k : ta σ H fun x H1 => tb σ H1 fun y H2 => r x y H2 Q) : tOp r ta tb σ H Q := k
theorem y_un {r : V → Hp → VK → Prop} (k : ta σ H fun x H1 => r x H1 Q) : tUn r ta σ H Q := k
theorem y_test (k : te σ H fun x H1 => ∃ c, x = .bl c ∧ QB c H1) : tTest te σ H QB := k
theorem y_tB (k : te σ H fun x H1 => ∃ c, x = .bl c ∧ QB c H1) : tB te σ H QB := k
theorem y_not (k : tt σ H fun c H1 => QB (!c) H1) : tNot tt σ H QB := k
theorem y_notV (k : te σ H fun x H1 => ∃ c, x = .bl c ∧ Q (.bl (!c)) H1) : tNotV te σ H Q := k
theorem y_andV (k : ta σ H fun x H1 => ∃ c, x = .bl c ∧ if c = true then tb σ H1 Q else Q (.bl false) H1) : tAndV ta tb σ H Q := k
theorem y_orV (k : ta σ H fun x H1 => ∃ c, x = .bl c ∧ if c = true then Q (.bl true) H1 else tb σ H1 Q) : tOrV ta tb σ H Q := k
theorem y_and (k : tt σ H fun c H1 => if c = true then tu σ H1 QB else QB false H1) : tAnd tt tu σ H QB := k
theorem y_or (k : tt σ H fun c H1 => if c = true then QB true H1 else tu σ H1 QB) : tOr tt tu σ H QB := k
theorem y_cb {r : List V → Hp → VK → Prop} (k : ts σ H fun vs H1 => r vs H1 Q) : tCB r ts σ H Q := k
theorem y_nil {QL : List V → Hp → Prop} (k : QL [] H) : tNil σ H QL := k
theorem y_cons {QL : List V → Hp → Prop} (k : ta σ H fun x H1 => ts σ H1 fun xs H2 => QL (x :: xs) H2) : tCons ta ts σ H QL := k
theorem y_sl {r : V → Option Int → Option Int → Hp → VK → Prop} {tl th : TO} (k : te σ H fun x H1 => tl σ H1 fun l H2 => th σ H2 fun u H3 => r x l u H3 Q) : tSl r te tl th σ H Q := k
theorem y_noPart {QO : Option Int → Hp → Prop} (k : QO none H) : tNoPart σ H QO := k
theorem y_part {QO : Option Int → Hp → Prop} (k : te σ H fun x H1 => ∃ i, x = .int i ∧ QO (some i) H1) : tPart te σ H QO := k
theorem y_call {sp : Sp} {E : XK} (k : ts σ H fun vs H1 => sp (vs ++ []) H1 Q E) : tCall sp [] E ts σ H Q := k
theorem y_bm {T : String} {r : V → List V → Hp → VK → Prop} (k : te σ H fun x H1 => tyV K T x H1 ∧ ts σ H1 fun xs H2 => r x xs H2 Q) : tBM K T r te ts σ H Q := k
/-! ### values -/
theorem y_i0 {g : Int → Int → V} {a b : Int} (k : Q (g a b) H) : rI0 g (.int a) (.int b) H Q := ⟨a, b, rfl, rfl, k⟩
theorem y_ig {C : Int → Int → Prop} {g : Int → Int → V} {a b : Int} (c : C a b) (k : Q (g a b) H) : rI C g (.int a) (.int b) H Q := ⟨a, b, rfl, rfl, c, k⟩
theorem y_neg {a : Int} (k : Q (.int (-a)) H) : rU (fun i => .int (-i)) (.int a) H Q := ⟨a, rfl, k⟩
theorem y_eqi {a b : Int} (k : Q (.bl (decide (a = b))) H) : rEq (.int a) (.int b) H Q := ⟨rfl, by
  have e : decide (V.int a = V.int b) = decide (a = b) := by simp
  rw [e]; exact k⟩
theorem y_nei {a b : Int} (k : Q (.bl (!decide (a = b))) H) : rNe (.int a) (.int b) H Q := ⟨rfl, by
  have e : decide (V.int a = V.int b) = decide (a = b) := by simp
  rw [e]; exact k⟩
theorem y_eqb {a b : Bool} (k : Q (.bl (decide (a = b))) H) : rEq (.bl a) (.bl b) H Q := ⟨rfl, by
  have e : decide (V.bl a = V.bl b) = decide (a = b) := by simp
  rw [e]; exact k⟩
theorem y_neb {a b : Bool} (k : Q (.bl (!decide (a = b))) H) : rNe (.bl a) (.bl b) H Q := ⟨rfl, by
  have e : decide (V.bl a = V.bl b) = decide (a = b) := by simp
  rw [e]; exact k⟩
theorem y_eqs {a b : Str} (k : Q (.bl (decide (a = b))) H) : rEq (.str a) (.str b) H Q := ⟨rfl, by
  have e : decide (V.str a = V.str b) = decide (a = b) := by simp
  rw [e]; exact k⟩
theorem y_nes {a b : Str} (k : Q (.bl (!decide (a = b))) H) : rNe (.str a) (.str b) H Q := ⟨rfl, by
  have e : decide (V.str a = V.str b) = decide (a = b) := by simp
  rw [e]; exact k⟩
def eqD {β γ : Type} [Py β] [Py γ] (x : β) (y : γ) : Bool := PyData.eqv (toPy x) (toPy y)
def okD {β : Type} [Py β] (x : β) : Prop := SeqAt.shaped (toPy x) = true
theorem y_eqD {x : α} {y : β} (d1 : Z.D K H v x) (d2 : Z.D K H w y) (hg : okD x ∧ okD y) (k : Q (.bl (eqD x y)) H) : rEqD K v w H Q := ⟨_, _, Dq.dp _ _ (shp hg.1) d1, Dq.dp _ _ (shp hg.2) d2, hg.1, hg.2, k⟩
theorem y_neD {x : α} {y : β} (d1 : Z.D K H v x) (d2 : Z.D K H w y) (hg : okD x ∧ okD y) (k : Q (.bl (!eqD x y)) H) : rNeD K v w H Q := ⟨_, _, Dq.dp _ _ (shp hg.1) d1, Dq.dp _ _ (shp hg.2) d2, hg.1, hg.2, k⟩
def inD (x : α) (ys : List β) : Bool := ys.any fun y => eqD y x
theorem any_map {x : α} : ∀ {ys : List β}, ((ys.map Py.toPy).any fun z => PyData.eqv z (toPy x)) = inD x ys
  | [] => rfl
  | y :: ys => by
    show (_ || _) = (_ || _)
    rw [any_map]; rfl
theorem y_inD {x : α} {ys : List β} (d1 : Z.D K H v x) (d2 : Z.D K H w ys) (hg : okD x ∧ okD ys) (k : Q (.bl (inD x ys)) H) : rInD K v w H Q := ⟨_, _, Dq.dp _ _ (shp hg.1) d1, Dq.dp _ _ (shp hg.2) d2, hg.1, hg.2, by
  have e := any_map (x := x) (ys := ys)
  exact e ▸ k⟩
theorem y_notInD {x : α} {ys : List β} (d1 : Z.D K H v x) (d2 : Z.D K H w ys) (hg : okD x ∧ okD ys) (k : Q (.bl (!inD x ys)) H) : rNotInD K v w H Q := ⟨_, _, Dq.dp _ _ (shp hg.1) d1, Dq.dp _ _ (shp hg.2) d2, hg.1, hg.2, by
  have e := any_map (x := x) (ys := ys)
  exact e ▸ k⟩
theorem dec_non {x : Option β} (d : Z.D K H v x) (hg : ∀ b : β, x = some b → toPy b ≠ .none) : decide (v = .non) = x.isNone := by
  cases x with
  | none => cases d; rfl
  | some b =>
    rw [decide_eq_false]
    · rfl
    · intro ev
      subst ev
      have d3 : Dq K H V.non (toPy b) := d
      have nb := hg b rfl
      generalize toPy b = pb at d3 nb
      cases d3
      exact nb rfl
/-! lists read -/
theorem y_ixL {xs : List α} {i : Int} {f : α → W γ} (d : LV K rs Ho v xs) (z : Zs rs H Ho) (hw : (W.bind (W.opt (atI xs i)) f).run Φ) (k : ∀ t w, Z.D K Ho w t → (f t).run Φ → Q w H) : rIxL K v (.int i) H Q := by
  obtain ⟨p, vs, rfl, d, s⟩ := d.rd z
  obtain ⟨a, ea, hw⟩ := hw
  obtain ⟨w, ew, dw⟩ := DL.at d ea
  exact ⟨p, vs, i, w, rfl, rfl, s, ew, k a w dw hw⟩
theorem y_ixT {x : α} {y : β} {i : Int} (d : Z.D K Ho v x) (z : Zs rs H Ho) (hj : ∃ ds, toPy x = .tuple ds ∧ atI ds i = some (toPy y)) (k : ∀ w, Z.D K Ho w y → Q w H) : rIxT K v (.int i) H Q := by
  obtain ⟨ds, e1, e3⟩ := hj
  have d : Dq K Ho v (toPy x) := d
  rw [e1] at d
  cases d with
  | tup hs ha =>
    have hl := dpAll_len ha
    unfold atI at e3
    rw [← hl] at e3
    cases q : ixN _ i with
    | none => rw [q] at e3; cases e3
    | some j =>
      rw [q] at e3
      obtain ⟨w, ew, dw⟩ := dpAll_get ha e3
      refine ⟨_, _, _, w, rfl, rfl, SqT.of (z.le _ _ hs), ?_, k w dw⟩
      unfold atI
      rw [q]
      exact ew
theorem y_ixTp {xs : Tp α} {i : Int} {f : α → W γ} (d : Z.D K Ho v xs) (z : Zs rs H Ho) (hw : (W.bind (W.opt (atI xs.l i)) f).run Φ) (k : ∀ t w, Z.D K Ho w t → (f t).run Φ → Q w H) : rIxT K v (.int i) H Q := by
  obtain ⟨a, ea, hw⟩ := hw
  cases d with
  | tup hs ha =>
    obtain ⟨w, ew, dw⟩ := DL.at (K := K) (H := Ho) ha ea
    exact ⟨_, _, i, w, rfl, rfl, SqT.of (z.le _ _ hs), ew, k a w dw hw⟩
theorem y_slL {xs : List α} {l h : Option Int} (d : LV K rs Ho v xs) (z : Zs rs H Ho) (k : ∀ H' p ws, Zs ((p, .lst ws) :: rs) H' Ho → DL K Ho ws (Z.cut xs l h) → Q (.ref p) H') : rSlL K v l h H Q := by
  obtain ⟨p, vs, rfl, d, s⟩ := d.rd z
  exact ⟨p, vs, rfl, s, fun q hq => k _ q _ (z.root hq) (DL.cut d l h)⟩
theorem y_cat {xs ys : List α} (d1 : LV K rs Ho v xs) (d2 : LV K rs Ho w ys) (z : Zs rs H Ho) (hg : xs.length + ys.length ≤ sizeLine) (k : ∀ H' p ws, Zs ((p, .lst ws) :: rs) H' Ho → DL K Ho ws (xs ++ ys) → Q (.ref p) H') : rCatS K v w H Q := by
  obtain ⟨p, vs, rfl, d, s⟩ := LV.rd d1 z
  obtain ⟨p', vs', rfl, d', s'⟩ := LV.rd d2 z
  exact ⟨p, p', vs, vs', rfl, rfl, s, s', by rw [d.len, d'.len]; exact hg, fun q hq => k _ _ _ (z.root hq) (d.append d')⟩
theorem rep_dl {vs : List V} {xs : List α} (d : DL K Ho vs xs) (n : Nat) : DL K Ho (List.replicate n vs).flatten (List.replicate n xs).flatten := by
  induction n with
  | zero => exact .nil
  | succ n ih =>
    rw [List.replicate_succ, List.flatten_cons, List.replicate_succ, List.flatten_cons]
    exact d.append ih
def repG {α : Type} (xs : List α) (k : Int) : Prop := -(2 ^ 63) ≤ k ∧ k < 2 ^ 63 ∧ xs.length * k.toNat ≤ sizeLine
def repL {α : Type} (xs : List α) (k : Int) : List α := (List.replicate k.toNat xs).flatten
/-- the new list xs, repeated -/
theorem y_rep {ws : List V} {xs : List α} {n : Int} (z : Zs ((p, .lst ws) :: rs) H Ho) (d : DL K Ho ws xs) (hg : repG xs n) (k : ∀ H' q ws', Zs ((q, .lst ws') :: rs) H' Ho → DL K Ho ws' (repL xs n) → Q (.ref q) H') : rRep (.ref p) (.int n) H Q :=
  ⟨p, n, ws, rfl, rfl, z.head, hg.1, hg.2.1, by rw [DL.len d]; exact hg.2.2, fun q hq => k _ q _ (z.root hq).sw1.tail (rep_dl d _)⟩
theorem y_lstk {vs : List V} {xs : List α} (z : Zs rs H Ho) (d : DL K Ho vs xs) (hl : vs.length ≤ sizeLine) (k : ∀ H' p ws, Zs ((p, .lst ws) :: rs) H' Ho → DL K Ho ws xs → Q (.ref p) H') : vs.length ≤ sizeLine ∧ ∀ p, H p = none → Q (.ref p) (upd H p (.lst vs)) :=
  ⟨hl, fun p hp => k _ p _ (z.root hp) d⟩
theorem y_tupk {vs : List V} {x : α} (z : Zs rs H Ho) (hl : vs.length ≤ sizeLine) (ds : List PyData) (hx : toPy x = .tuple ds) (d : DqAll K Ho vs ds) (k : ∀ p H' Ho', Same Ho Ho' → Zs rs H' Ho' → Z.D K Ho' (.ref p) x → Q (.ref p) H') :
    vs.length ≤ sizeLine ∧ ∀ p, H p = none → Q (.ref p) (upd H p (.tup vs)) :=
  ⟨hl, fun p hp => by
    have e3 : Same Ho (upd Ho p (.tup vs)) := Same.new (z.free hp)
    refine k p _ _ e3 (z.alloc hp) ?_
    show Dq K _ _ (toPy x)
    rw [hx]
    exact .tup upd_same (dpAll_mono e3 _ _ d)⟩
/-! ### statements -/
theorem y_asgG {g : TG} (k : te σ H fun v H1 => g v σ H1 fun σ' H' => u D σ' H') : tSeq (tAsg te g) u D σ H := k
theorem y_drop (k : te σ H fun _ H1 => u D σ H1) : tSeq (tDrop te) u D σ H := k
theorem y_ret (k : te σ H D.rt) : tSeq (tRet te) u D σ H := k
theorem y_retN (k : D.rt .non H) : tSeq tRetN u D σ H := k
theorem y_ifS (k : tt σ H fun b H1 => if b = true then t1 { D with nx := u D } σ H1 else t2 { D with nx := u D } σ H1) : tSeq (tIfS tt t1 t2) u D σ H := k
theorem y_cases {A B : W γ} {b : Bool} {X Y : Prop} (hw : (W.ite b A B).run Φ) (h1 : b = true → A.run Φ → X) (h2 : b = false → B.run Φ → Y) : if b = true then X else Y := by
  cases b with
  | true => exact iteT (h1 rfl (hw.1 rfl))
  | false => exact iteF (h2 rfl (hw.2 rfl))
theorem run_ret {β : Type} {a : β} {Φ : β → Prop} (h : (W.ret a).run Φ) : Φ a := h
def apd {α : Type} (xs : List α) (x : α) : W (List α) := W.guard (xs.length < sizeLine) (W.ret (xs ++ [x]))
def exd {α : Type} (xs ys : List α) : W (List α) := W.guard (xs.length + ys.length ≤ sizeLine) (W.ret (xs ++ ys))
def sti {α : Type} (xs : List α) (i : Int) (y : α) : W (List α) := W.bind (W.opt (ixN xs.length i)) fun j => W.ret (xs.set j y)
/-- xs.pop(i) -/
def popI {α : Type} (xs : List α) (i : Int) : W (α × List α) := W.guard (-(2 ^ 63) ≤ i ∧ i < 2 ^ 63) (W.bind (W.opt (ixN xs.length i)) fun j => W.bind (W.opt xs[j]?) fun x => W.ret (x, xs.eraseIdx j))
theorem ixN_seq {n : Nat} {i : Int} {j : Nat} (h : ixN n i = some j) : seqIndex? i n = some j := by
  unfold ixN at h
  by_cases c : 0 ≤ i
  · rw [if_pos c] at h
    split at h
    · rename_i hl
      have e : i.toNat = j := Option.some.inj h
      rw [seqIndex_of c (by omega)]
      exact h
    · cases h
  · rw [if_neg c] at h
    split at h
    · rename_i hl
      rw [seqIndex_neg (by omega) (by omega)]
      rw [← h]
    · cases h
theorem dpAll_erase {vs : List V} {ds : List PyData} (h : DqAll K H vs ds) (j : Nat) : DqAll K H (vs.eraseIdx j) (ds.eraseIdx j) := by
  induction vs generalizing ds j with
  | nil => cases h; exact .nil
  | cons u vs ih =>
    cases h with
    | cons h1 h2 =>
      cases j with
      | zero => exact h2
      | succ j => exact .cons h1 (ih h2 j)
theorem map_erase {α β : Type} (f : α → β) : ∀ (xs : List α) (j : Nat), (xs.eraseIdx j).map f = (xs.map f).eraseIdx j
  | [], _ => rfl
  | x :: xs, 0 => rfl
  | x :: xs, j + 1 => by simp [map_erase f xs j]
theorem y_popI {n : Nat} {ws : List V} {xs : List α} {i : Int} {f : α × List α → W γ} (z : Zs rs H Ho) (hn : rs[n]? = some (p, .lst ws)) (d : DL K Ho ws xs) (hw : (W.bind (popI xs i) f).run Φ) (k : ∀ t xs' w ws' H', Zs (rs.set n (p, .lst ws')) H' Ho → DL K Ho ws' xs' → Z.D K Ho w t → (f (t, xs')).run Φ → Q w H') : rPopAt (.ref p) [.int i] H Q := by
  have hp := z.rt _ (List.mem_of_getElem? hn)
  obtain ⟨⟨g1, g2⟩, j, ej, t, et, hw⟩ := hw
  obtain ⟨w, ew, dw⟩ := DL.get d et
  refine ⟨p, ws, i, j, w, rfl, rfl, hp.1, g1, g2, ixN_seq (by rw [DL.len d]; exact ej), ew, k t _ w _ _ (z.putI hn) ?_ dw hw⟩
  show DqAll _ _ _ ((xs.eraseIdx j).map Py.toPy)
  rw [map_erase]
  exact dpAll_erase d j
theorem y_gsub {to ti : TE} {t : TSet} {QS : L2.St → Hp → Prop} (k : to σ H fun o H1 => ti σ H1 fun i H2 => t o i v H2 fun H3 => QS σ H3) : gSub to ti t v σ H QS := k
theorem y_augS {to ti : TE} {tget : V → V → Hp → VK → Prop} {tip : TIp} {tset : TSet} (k : to σ H fun o H1 => ti σ H1 fun i H2 => tget o i H2 fun x H3 => te σ H3 fun y H4 => tip x y H4 fun z H5 => tset o i z H5 fun H6 => u D σ H6) : tSeq (tAugS to ti te tget tip tset) u D σ H := k
theorem y_ip {f : Int → Int → Int} {a b : Int} (k : Q (.int (f a b)) H) : ipI f (.int a) (.int b) H Q := ⟨a, b, rfl, rfl, k⟩
end
end Z
/-! # Y2: what is walked, loops, comprehensions, joins, errors, built-ins -/
namespace Z
open PySem PySem.Spec PyProof.Rows L2
/-! ### what is walked -/
def rng (a b : Int) : List Int := (List.range (b - a).toNat).map fun k : Nat => a + k
def rngOk (a b : Int) : Prop := -(2 ^ 62) ≤ a ∧ a < 2 ^ 62 ∧ -(2 ^ 62) ≤ b ∧ b < 2 ^ 62
/-- the turns of an iterator, by the items' data -/
def Trn {α : Type} [Py α] (K : PySem.W.Frag) (r0 : List (Addr × HO)) (J : It) (xs : List α) (Ho2 : Hp) : Prop :=
  ∀ i rs' H' Ho', Same Ho2 Ho' → Zs rs' H' Ho' → (∀ r ∈ r0, r ∈ rs') → (∀ a, xs[i]? = some a → J.go i H' ∧ ∀ x H'', J.yld i H' x H'' → ∃ Ho'', Same Ho' Ho'' ∧ (∀ rs, Zs rs H' Ho' → Zs rs H'' Ho'') ∧ D K Ho'' x a) ∧ (xs.length ≤ i → J.stop i H')
section
variable {K : PySem.W.Frag} {rs r0 : List (Addr × HO)} {σ : L2.St} {H Ho : Hp} {ta tb tc te tl : TE} {tt tu : TT} {α β γ : Type} [Py α] [Py β] {p : Addr} {Φ : γ → Prop} {R : It → Hp → Prop} {v u : V}
theorem src_stay {q : Addr} {ys : List V} {rs' : List (Addr × HO)} {H Ho' : Hp} (s : SqL K Ho q ys ∨ (q, HO.lst ys) ∈ rs) (e : Same Ho Ho') (z : Zs rs' H Ho') (sub : ∀ r ∈ rs, r ∈ rs') : SqL K H q ys := by
  rcases s with s | s
  · exact z.le.seq (e.seq s)
  · exact SqL.of (z.rt _ (sub _ s)).1
theorem trn_list {q : Addr} {xs : List α} {v : V} (h : LV K r0 Ho v xs) (hv : v = .ref q) : Trn K r0 (Itl K q) xs Ho := by
  intro i rs' H' Ho' e z sub
  obtain ⟨q', ys, rfl, d, s⟩ := h
  cases hv
  have sq : SqL K H' q ys := src_stay s e z sub
  refine ⟨fun a ha => ?_, fun hl => ⟨ys, sq, by rw [d.len]; exact hl⟩⟩
  obtain ⟨w, ew, dw⟩ := d.get ha
  refine ⟨⟨ys, w, sq, ew⟩, fun x H'' y => ?_⟩
  obtain ⟨rfl, y⟩ := y
  have ex : x = w := Option.some.inj ((y _ sq).symm.trans ew)
  subst ex
  exact ⟨Ho', Same.refl _, fun _ z => z, D.mo dw e⟩
theorem y_srcL {xs : List α} (d : LV K r0 Ho v xs) (hs : ∀ r ∈ r0, r ∈ rs) (z : Zs rs H Ho) (k : ∀ J, Trn K r0 J xs Ho → R J H) : ∃ a, v = .ref a ∧ (∃ ys, SqL K H a ys) ∧ R (Itl K a) H := by
  obtain ⟨q, ys, rfl, dd, s⟩ := id d
  exact ⟨q, rfl, ⟨ys, src_stay s (Same.refl _) z hs⟩, k _ (trn_list d rfl)⟩
theorem rng_get {a b : Int} {i : Nat} {x : Int} (h : (rng a b)[i]? = some x) : i < (b - a).toNat ∧ x = a + i := by
  unfold rng at h
  rw [List.getElem?_map] at h
  cases e : (List.range (b - a).toNat)[i]? with
  | none => rw [e] at h; cases h
  | some k =>
    rw [e] at h
    obtain ⟨hl, ek⟩ := List.getElem?_eq_some_iff.mp e
    rw [List.getElem_range] at ek
    subst ek
    rw [List.length_range] at hl
    exact ⟨hl, (Option.some.inj h).symm⟩
theorem rng_len {a b : Int} : (rng a b).length = (b - a).toNat := by unfold rng; simp
theorem trn_range {a b : Int} : Trn K [] (Itr a (b - a).toNat) (rng a b) Ho := by
  intro i rs' H' Ho' e z sub
  refine ⟨fun x hx => ?_, fun hl => ?_⟩
  · obtain ⟨hi, rfl⟩ := rng_get hx
    refine ⟨hi, fun y H'' yy => ?_⟩
    obtain ⟨rfl, rfl⟩ := yy
    exact ⟨Ho', Same.refl _, fun _ z => z, .int _⟩
  · rw [rng_len] at hl
    exact hl
theorem y_srcR1 {n : Int} (hg : rngOk 0 n) (k : ∀ J, Trn K [] J (rng 0 n) Ho → R J H) : ∃ j : Int, [V.int n] = [.int j] ∧ -(2 ^ 62) ≤ j ∧ j < 2 ^ 62 ∧ R (Itr 0 j.toNat) H := by
  refine ⟨n, rfl, hg.2.2.1, hg.2.2.2, ?_⟩
  have e : n.toNat = (n - 0).toNat := by rw [Int.sub_zero]
  rw [e]
  exact k _ trn_range
theorem trn_zip {a b : Addr} {xs : List α} {ys : List β} {v u : V} (h : LV K r0 Ho v xs) (hv : v = .ref a) (h' : LV K r0 Ho u ys) (hu : u = .ref b) : Trn K r0 (Itz K a b) (xs.zip ys) Ho := by
  intro i rs' H' Ho' e z sub
  obtain ⟨a', vs, rfl, d, s⟩ := h
  obtain ⟨b', us, rfl, d', s'⟩ := h'
  cases hv
  cases hu
  have sa : SqL K H' a vs := src_stay s e z sub
  have sb : SqL K H' b us := src_stay s' e z sub
  refine ⟨fun p hp => ?_, fun hl => ⟨vs, us, sa, sb, ?_⟩⟩
  · obtain ⟨hx, hy⟩ := List.getElem?_zip_eq_some.mp hp
    obtain ⟨x, ex, dx⟩ := d.get hx
    obtain ⟨y, ey, dy⟩ := d'.get hy
    refine ⟨⟨vs, us, x, y, sa, sb, ex, ey⟩, fun t H'' yy => ?_⟩
    obtain ⟨T, x', y', rfl, hT, rfl, qx, qy⟩ := yy
    have e1 : x' = x := Option.some.inj ((qx _ sa).symm.trans ex)
    have e2 : y' = y := Option.some.inj ((qy _ sb).symm.trans ey)
    subst e1 e2
    have e3 : Same Ho' (upd Ho' T (.tup [x', y'])) := Same.new (z.free hT)
    exact ⟨_, e3, fun _ z => z.alloc hT, .tup upd_same (.cons (D.mo (D.mo dx e) e3) (.cons (D.mo (D.mo dy e) e3) .nil))⟩
  · rw [List.length_zip] at hl
    rw [d.len, d'.len]
    omega
/-! ### loops -/
theorem drop_cons {γ : Type} {xs : List γ} {i : Nat} {x : γ} (h : xs[i]? = some x) : xs.drop i = x :: xs.drop (i + 1) := by
  obtain ⟨hi, e⟩ := List.getElem?_eq_some_iff.mp h
  rw [List.drop_eq_getElem_cons hi, e]
def ForG (g : TG) (tb u : TS) (D : Ends) (σ : L2.St) (J : It) (H1 : Hp) : Prop := ∃ W : Nat → Nat → L2.St → Hp → Prop, (∃ m, W 0 m σ H1) ∧ ∀ i m σ H, W i m σ H →
  (J.stop i H ∧ u D σ H) ∨ (J.go i H ∧ ∃ N : L2.St → Hp → Prop, (∀ σ' H', N σ' H' → ∃ m', m' < m ∧ W (i + 1) m' σ' H') ∧ ∀ x H', J.yld i H x H' → g x σ H' fun σ2 H2 => tb { D with nx := N, ct := N, bk := u D } σ2 H2)
variable {g : TG} {u1 tb' : TS} {D : Ends}
theorem y_for {wi_ : TI} (k : wi_ σ H fun J H1 => ForG g tb' u1 D σ J H1) : tSeq (tFor wi_ g tb') u1 D σ H := k
theorem y_forL {S : Type} {J : It} {xs : List α} {s0 : S} {body : α → S → W S} {f : S → W γ} (T : Trn K r0 J xs Ho) (hw : (W.bind (W.forL xs s0 body) f).run Φ) (I : S → L2.St → Hp → Hp → Prop) (i0 : I s0 σ H Ho)
    (hz : ∀ s σ' H' Ho', I s σ' H' Ho' → ∃ rs', Zs rs' H' Ho' ∧ ∀ r ∈ r0, r ∈ rs')
    (im : ∀ s σ' H' Ho' H'' Ho'', I s σ' H' Ho' → Same Ho' Ho'' → (∀ rs, Zs rs H' Ho' → Zs rs H'' Ho'') → I s σ' H'' Ho'')
    (step : ∀ a x s σ' H' Ho' (N : L2.St → Hp → Prop), Same Ho Ho' → I s σ' H' Ho' → Z.D K Ho' x a → (body a s).run (fun s' => ∀ σ'' H'' Ho'', Same Ho' Ho'' → I s' σ'' H'' Ho'' → N σ'' H'') → g x σ' H' fun σ2 H2 => tb' { D with nx := N, ct := N, bk := u1 D } σ2 H2)
    (done : ∀ s σ' H' Ho', Same Ho Ho' → I s σ' H' Ho' → (f s).run Φ → u1 D σ' H') : ForG g tb' u1 D σ J H := by
  refine ⟨fun i m σ' H' => m = xs.length - i ∧ i ≤ xs.length ∧ ∃ s Ho', Same Ho Ho' ∧ I s σ' H' Ho' ∧ (W.bind (W.forL (xs.drop i) s body) f).run Φ, ⟨xs.length, by simp, Nat.zero_le _, s0, Ho, Same.refl _, i0, hw⟩, ?_⟩
  rintro i m σ' H' ⟨rfl, hi, s, Ho', e', hI, hw⟩
  obtain ⟨rs', z', sub⟩ := hz s σ' H' Ho' hI
  have tr := T i rs' H' Ho' e' z' sub
  by_cases hlt : i < xs.length
  · refine .inr ?_
    have hxi := List.getElem?_eq_getElem hlt
    obtain ⟨go, yl⟩ := tr.1 _ hxi
    rw [drop_cons hxi] at hw
    refine ⟨go, fun σ'' H'' => ∃ s' Ho'', Same Ho Ho'' ∧ I s' σ'' H'' Ho'' ∧ (W.bind (W.forL (xs.drop (i + 1)) s' body) f).run Φ, fun σ'' H'' hN => ⟨xs.length - (i + 1), by omega, rfl, hlt, hN⟩, fun x H'' y => ?_⟩
    obtain ⟨Ho3, e3, z3, dx⟩ := yl x H'' y
    refine step _ x s σ' H'' Ho3 _ (e'.trans e3) (im _ _ _ _ _ _ hI e3 z3) dx ?_
    exact W.mono _ _ _ (fun s' hs' σ4 H4 Ho4 e4 hI4 => ⟨s', Ho4, (e'.trans e3).trans e4, hI4, hs'⟩) (show (body xs[i] s).run (fun s' => (W.bind (W.forL (xs.drop (i + 1)) s' body) f).run Φ) from hw)
  · have e : i = xs.length := by omega
    subst e
    rw [List.drop_length] at hw
    exact .inl ⟨tr.2 (Nat.le_refl _), done s σ' H' Ho' e' hI hw⟩
theorem y_forC {S ρ : Type} {J : It} {xs : List α} {s0 : S} {body : α → S → W (Ctl ρ S)} {f : S → W ρ} {Φ : ρ → Prop} (T : Trn K r0 J xs Ho) (hw : (W.bind (W.forC xs s0 body) fun c => W.after c f).run Φ) (I : S → L2.St → Hp → Hp → Prop) (i0 : I s0 σ H Ho)
    (hz : ∀ s σ' H' Ho', I s σ' H' Ho' → ∃ rs', Zs rs' H' Ho' ∧ ∀ r ∈ r0, r ∈ rs')
    (im : ∀ s σ' H' Ho' H'' Ho'', I s σ' H' Ho' → Same Ho' Ho'' → (∀ rs, Zs rs H' Ho' → Zs rs H'' Ho'') → I s σ' H'' Ho'')
    (step : ∀ a x s σ' H' Ho' (N B : L2.St → Hp → Prop), Same Ho Ho' → I s σ' H' Ho' → Z.D K Ho' x a → (body a s).run (CtlP (fun s' => ∀ σ'' H'' Ho'', Same Ho' Ho'' → I s' σ'' H'' Ho'' → N σ'' H'') (fun s' => ∀ σ'' H'' Ho'', Same Ho' Ho'' → I s' σ'' H'' Ho'' → B σ'' H'') Φ) → g x σ' H' fun σ2 H2 => tb' { D with nx := N, ct := N, bk := B } σ2 H2)
    (done : ∀ s σ' H' Ho', Same Ho Ho' → I s σ' H' Ho' → (f s).run Φ → u1 D σ' H') : ForG g tb' u1 D σ J H := by
  refine ⟨fun i m σ' H' => m = xs.length - i ∧ i ≤ xs.length ∧ ∃ s Ho', Same Ho Ho' ∧ I s σ' H' Ho' ∧ (W.bind (W.forC (xs.drop i) s body) fun c => W.after c f).run Φ, ⟨xs.length, by simp, Nat.zero_le _, s0, Ho, Same.refl _, i0, hw⟩, ?_⟩
  rintro i m σ' H' ⟨rfl, hi, s, Ho', e', hI, hw⟩
  obtain ⟨rs', z', sub⟩ := hz s σ' H' Ho' hI
  have tr := T i rs' H' Ho' e' z' sub
  by_cases hlt : i < xs.length
  · refine .inr ?_
    have hxi := List.getElem?_eq_getElem hlt
    obtain ⟨go, yl⟩ := tr.1 _ hxi
    rw [drop_cons hxi] at hw
    refine ⟨go, fun σ'' H'' => ∃ s' Ho'', Same Ho Ho'' ∧ I s' σ'' H'' Ho'' ∧ (W.bind (W.forC (xs.drop (i + 1)) s' body) fun c => W.after c f).run Φ, fun σ'' H'' hN => ⟨xs.length - (i + 1), by omega, rfl, hlt, hN⟩, fun x H'' y => ?_⟩
    obtain ⟨Ho3, e3, z3, dx⟩ := yl x H'' y
    refine step _ x s σ' H'' Ho3 _ (u1 D) (e'.trans e3) (im _ _ _ _ _ _ hI e3 z3) dx ?_
    refine W.mono _ _ _ (fun c hc => ?_) (show (body xs[i] s).run _ from hw)
    cases c with
    | nx s' => exact fun σ4 H4 Ho4 e4 hI4 => ⟨s', Ho4, (e'.trans e3).trans e4, hI4, hc⟩
    | bk s' => exact fun σ4 H4 Ho4 e4 hI4 => done s' σ4 H4 Ho4 ((e'.trans e3).trans e4) hI4 hc
    | rt r => exact hc
  · have e : i = xs.length := by omega
    subst e
    rw [List.drop_length] at hw
    exact .inl ⟨tr.2 (Nat.le_refl _), done s σ' H' Ho' e' hI hw⟩
theorem y_while {S ρ : Type} {s0 : S} {body : S → W (Ctl ρ S)} {f : S → W ρ} {Φ : ρ → Prop} (hw : (W.bind (W.whileL s0 body) fun c => W.after c f).run Φ) (I : S → L2.St → Hp → Hp → Prop) (i0 : I s0 σ H Ho)
    (step : ∀ s σ' H' Ho' (N B : L2.St → Hp → Prop) (E : (L2.St → Hp → Prop) → Prop), E N → Same Ho Ho' → I s σ' H' Ho' → (body s).run (CtlP (fun s' => ∀ σ'' H'' Ho'', Same Ho' Ho'' → I s' σ'' H'' Ho'' → N σ'' H'') (fun s' => ∀ σ'' H'' Ho'', Same Ho' Ho'' → I s' σ'' H'' Ho'' → B σ'' H'') Φ) →
      tt σ' H' fun b H1 => if b = true then ∃ N, E N ∧ tb' { D with nx := N, ct := N, bk := B } σ' H1 else B σ' H1)
    (done : ∀ s σ' H' Ho', Same Ho Ho' → I s σ' H' Ho' → (f s).run Φ → u1 D σ' H') : tSeq (tWhile tt tb') u1 D σ H := by
  obtain ⟨n, hw⟩ := hw
  refine ⟨fun m σ' H' => ∃ s Ho', Same Ho Ho' ∧ I s σ' H' Ho' ∧ (W.bind (W.whileN m s body) fun c => W.after c f).run Φ, ⟨n, s0, Ho, Same.refl _, i0, hw⟩, ?_⟩
  rintro m σ' H' ⟨s, Ho', e', hI, hw⟩
  cases m with
  | zero => exact hw.elim
  | succ m =>
    refine step s σ' H' Ho' (fun σ'' H'' => ∃ s' Ho'', Same Ho Ho'' ∧ I s' σ'' H'' Ho'' ∧ (W.bind (W.whileN m s' body) fun c => W.after c f).run Φ) (u1 D) (fun N => ∀ σ' H', N σ' H' → ∃ m', m' < m + 1 ∧ ∃ s Ho', Same Ho Ho' ∧ I s σ' H' Ho' ∧ (W.bind (W.whileN m' s body) fun c => W.after c f).run Φ) (fun σ2 H2 h2 => ⟨m, Nat.lt_succ_self _, h2⟩) e' hI ?_
    refine W.mono _ _ _ (fun c hc => ?_) (show (body s).run _ from hw)
    cases c with
    | nx s' => exact fun σ4 H4 Ho4 e4 hI4 => ⟨s', Ho4, e'.trans e4, hI4, hc⟩
    | bk s' => exact fun σ4 H4 Ho4 e4 hI4 => done s' σ4 H4 Ho4 (e'.trans e4) hI4 hc
    | rt r => exact hc
end
end Z
/-! # Y3: targets, comprehensions, joins, errors, built-ins -/
namespace Z
open PySem PySem.Spec PyProof.Rows L2
section
variable {K : PySem.W.Frag} {rs r0 : List (Addr × HO)} {σ : L2.St} {H Ho : Hp} {ta tb tc te tl : TE} {tt tu : TT} {α β γ : Type} [Py α] [Py β] {p : Addr} {Φ : γ → Prop} {Q : VK} {v u : V}
/-! ### targets -/
theorem y_gname {i : Nat} {x : V} {σ σ' : L2.St} {Q : L2.St → Hp → Prop} (hs : σ.set i (some x) = σ') (h : Q σ' H) : gName i x σ H Q := by
  show Q _ H
  rw [hs]
  exact h
theorem y_gt2 {i j : Nat} {x : V} {σ : L2.St} {Q : L2.St → Hp → Prop} {a : α × β} (d : D K Ho x a) (z : Zs rs H Ho) (k : ∀ v u, D K Ho v a.1 → D K Ho u a.2 → Q ((σ.set i (some v)).set j (some u)) H) : gTup K 2 (gCons (gName i) (gCons (gName j) gNil)) x σ H Q := by
  cases d with
  | tup hs ha =>
    cases ha with
    | cons h1 h2 =>
      cases h2 with
      | cons h2 h3 =>
        cases h3
        exact ⟨_, _, rfl, SqT.of (z.le _ _ hs), rfl, _, _, rfl, _, _, rfl, rfl, k _ _ h1 h2⟩
theorem y_gt4 {δ ε : Type} [Py δ] [Py ε] {i j l m : Nat} {x : V} {σ : L2.St} {Q : L2.St → Hp → Prop} {a : P4 α β δ ε} (d : D K Ho x a) (z : Zs rs H Ho) (k : ∀ v u w t, D K Ho v a.a → D K Ho u a.b → D K Ho w a.c → D K Ho t a.d → Q ((((σ.set i (some v)).set j (some u)).set l (some w)).set m (some t)) H) :
    gTup K 4 (gCons (gName i) (gCons (gName j) (gCons (gName l) (gCons (gName m) gNil)))) x σ H Q := by
  cases d with
  | tup hs ha =>
    cases ha with
    | cons h1 h2 =>
      cases h2 with
      | cons h2 h3 =>
        cases h3 with
        | cons h3 h4 =>
          cases h4 with
          | cons h4 h5 =>
            cases h5
            exact ⟨_, _, rfl, SqT.of (z.le _ _ hs), rfl, _, _, rfl, _, _, rfl, _, _, rfl, _, _, rfl, rfl, k _ _ _ _ h1 h2 h3 h4⟩
/-! ### comprehensions -/
def comp {α β : Type} : List α → List β → (α → W Bool) → (α → W β) → W (List β)
  | [], acc, _, _ => W.ret acc
  | x :: xs, acc, t, f => W.bind (t x) fun b => W.ite b (W.bind (f x) fun y => comp xs (acc ++ [y]) t f) (comp xs acc t f)
def compG {α β : Type} (xs : List α) (t : α → W Bool) (f : α → W β) : W (List β) := W.guard (xs.length ≤ sizeLine) (comp xs [] t f)
/-- with a state -/
def compS {α β S : Type} : List α → List β → S → (α → S → W (Option β × S)) → W (List β × S)
  | [], acc, s, _ => W.ret (acc, s)
  | x :: xs, acc, s, f => W.bind (f x s) fun r => match r.1 with
    | none => compS xs acc r.2 f
    | some y => compS xs (acc ++ [y]) r.2 f
def compSG {α β S : Type} (xs : List α) (s : S) (f : α → S → W (Option β × S)) : W (List β × S) := W.guard (xs.length ≤ sizeLine) (compS xs [] s f)
def LcG (g : TG) (tt : TT) (te : TE) (vs : List Nat) (σ : L2.St) (Q : VK) (J : It) (H1 : Hp) : Prop := ∀ D, H1 D = none → ∃ W : Nat → Nat → Hp → Prop, (∃ m, W 0 m (upd H1 D (.lst []))) ∧ ∀ i m H, W i m H →
  (J.stop i H ∧ Q (.ref D) H) ∨ (J.go i H ∧ ∃ Nx : Hp → Prop, (∀ H', Nx H' → ∃ m', m' < m ∧ W (i + 1) m' H') ∧ ∀ x H', J.yld i H x H' → g x (wipe σ vs) H' fun σ2 H2 => wipe σ2 vs = wipe σ vs ∧ tt σ2 H2 fun b H3 =>
    if b = true then te σ2 H3 fun y H4 => ∃ acc, H4 D = some (.lst acc) ∧ acc.length < sizeLine ∧ Nx (upd H4 D (.lst (acc ++ [y]))) else Nx H3)
variable {g : TG} {vs : List Nat} {wi : TI}
theorem y_lc (k : wi σ H fun J H1 => LcG g tt te vs σ Q J H1) : tLc wi g tt te vs σ H Q := k
theorem y_yes {QB : Bool → Hp → Prop} (k : QB true H) : tYes σ H QB := k
theorem y_lcG {J : It} {xs : List α} {ct : α → W Bool} {cf : α → W β} {f : List β → W γ} (z : Zs rs H Ho) (hr : ∀ r ∈ r0, r ∈ rs) (T : Trn K r0 J xs Ho) (hw : (W.bind (compG xs ct cf) f).run Φ)
    (hx : ∀ (r : Addr × HO) a x H' Ho' (N : VK) (N' : Hp → Prop), Same Ho Ho' → Zs (r :: rs) H' Ho' → Z.D K Ho' x a →
      (W.bind (ct a) fun b => W.ite b (cf a) ⟨fun Ψ => ∀ H'' Ho'', Same Ho' Ho'' → Zs (r :: rs) H'' Ho'' → N' H'', fun _ _ _ q => q⟩).run (fun y => ∀ w H'' Ho'', Same Ho' Ho'' → Zs (r :: rs) H'' Ho'' → Z.D K Ho'' w y → N w H'') →
      g x (wipe σ vs) H' fun σ2 H2 => wipe σ2 vs = wipe σ vs ∧ tt σ2 H2 fun b H3 => if b = true then te σ2 H3 N else N' H3)
    (k : ∀ ys H' Ho', Same Ho Ho' → (f ys).run Φ → ∀ p ws, Zs ((p, .lst ws) :: rs) H' Ho' → DL K Ho' ws ys → Q (.ref p) H') : LcG g tt te vs σ Q J H := by
  intro Dn hD
  obtain ⟨hsz, hw⟩ := hw
  refine ⟨fun i m H => m = xs.length - i ∧ i ≤ xs.length ∧ ∃ (Ho' : Hp) (acc : List β) (acs : List V), Same Ho Ho' ∧ Zs ((Dn, .lst acs) :: rs) H Ho' ∧ DL K Ho' acs acc ∧ acs.length ≤ i ∧ (comp (xs.drop i) acc ct cf).run fun ys => (f ys).run Φ,
    ⟨xs.length, by simp, Nat.zero_le _, Ho, [], [], Same.refl _, z.root hD, .nil, Nat.le_refl _, hw⟩, ?_⟩
  rintro i m H ⟨rfl, hi, Ho', acc, acs, e', z', da, la, hw⟩
  have tr := T i _ H Ho' e' z' fun r hrr => List.mem_cons_of_mem _ (hr r hrr)
  by_cases hlt : i < xs.length
  · refine .inr ?_
    have hxi := List.getElem?_eq_getElem hlt
    obtain ⟨go, yl⟩ := tr.1 _ hxi
    refine ⟨go, fun H' => ∃ (Ho' : Hp) (acc : List β) (acs : List V), Same Ho Ho' ∧ Zs ((Dn, .lst acs) :: rs) H' Ho' ∧ DL K Ho' acs acc ∧ acs.length ≤ i + 1 ∧ (comp (xs.drop (i + 1)) acc ct cf).run fun ys => (f ys).run Φ, fun H' hN => ⟨xs.length - (i + 1), by omega, rfl, hlt, hN⟩, fun x H' y => ?_⟩
    obtain ⟨Ho2, e2, z2, dx⟩ := yl x H' y
    rw [drop_cons hxi] at hw
    refine hx (Dn, .lst acs) _ x H' Ho2 _ _ (e'.trans e2) (z2 _ z') dx ?_
    have hw : (ct xs[i]).run fun b => (W.ite b (W.bind (cf xs[i]) fun y => comp (xs.drop (i + 1)) (acc ++ [y]) ct cf) (comp (xs.drop (i + 1)) acc ct cf)).run fun ys => (f ys).run Φ := hw
    show (ct xs[i]).run _
    refine W.mono _ _ _ (fun b hb => ?_) hw
    refine ⟨fun e => ?_, fun e H'' Ho'' e3 z3 => ?_⟩
    · refine W.mono _ _ _ (fun y hy w H'' Ho'' e3 z3 dw => ?_) (hb.1 e)
      refine ⟨acs, z3.head, by omega, Ho'', acc ++ [y], acs ++ [w], (e'.trans e2).trans e3, z3.put, (DL.mo (DL.mo da e2) e3).push dw, ?_, hy⟩
      rw [List.length_append]
      exact Nat.succ_le_succ la
    · exact ⟨Ho'', acc, acs, (e'.trans e2).trans e3, z3, DL.mo (DL.mo da e2) e3, Nat.le_succ_of_le la, hb.2 e⟩
  · have e : i = xs.length := by omega
    subst e
    refine .inl ⟨tr.2 (Nat.le_refl _), ?_⟩
    rw [List.drop_length] at hw
    exact k acc H Ho' e' hw Dn acs z' da
theorem y_lcS {S : Type} {J : It} {xs : List α} {s0 : S} {body : α → S → W (Option β × S)} {f : List β × S → W γ} (z : Zs rs H Ho) (T : Trn K r0 J xs Ho) (hw : (W.bind (compSG xs s0 body) f).run Φ) (I : (Addr × HO) → S → Hp → Hp → Prop)
    (i0 : ∀ r H', Zs (r :: rs) H' Ho → I r s0 H' Ho)
    (iz : ∀ r s H' Ho', I r s H' Ho' → ∃ rs', Zs (r :: rs') H' Ho' ∧ ∀ q ∈ r0, q ∈ rs')
    (im : ∀ r s H' Ho' H'' Ho'', I r s H' Ho' → Same Ho' Ho'' → (∀ rs, Zs rs H' Ho' → Zs rs H'' Ho'') → I r s H'' Ho'')
    (ip : ∀ p o o' s H' Ho', NotTup o' → I (p, o) s H' Ho' → I (p, o') s (upd H' p o') Ho')
    (hx : ∀ (r : Addr × HO) a x s H' Ho' (N : VK) (N' : Hp → Prop), Same Ho Ho' → I r s H' Ho' → Z.D K Ho' x a →
      (body a s).run (fun q => match q.1 with | some y => ∀ w H'' Ho'', Same Ho' Ho'' → I r q.2 H'' Ho'' → Z.D K Ho'' w y → N w H'' | none => ∀ H'' Ho'', Same Ho' Ho'' → I r q.2 H'' Ho'' → N' H'') →
      g x (wipe σ vs) H' fun σ2 H2 => wipe σ2 vs = wipe σ vs ∧ tt σ2 H2 fun b H3 => if b = true then te σ2 H3 N else N' H3)
    (k : ∀ ys s p ws H' Ho', Same Ho Ho' → I (p, .lst ws) s H' Ho' → DL K Ho' ws ys → (f (ys, s)).run Φ → Q (.ref p) H') : LcG g tt te vs σ Q J H := by
  intro Dn hD
  obtain ⟨hsz, hw⟩ := hw
  refine ⟨fun i m H => m = xs.length - i ∧ i ≤ xs.length ∧ ∃ (Ho' : Hp) (acc : List β) (acs : List V) (s : S), Same Ho Ho' ∧ I (Dn, .lst acs) s H Ho' ∧ DL K Ho' acs acc ∧ acs.length ≤ i ∧ (compS (xs.drop i) acc s body).run fun q => (f q).run Φ,
    ⟨xs.length, by simp, Nat.zero_le _, Ho, [], [], s0, Same.refl _, i0 _ _ (z.root hD), .nil, Nat.le_refl _, hw⟩, ?_⟩
  rintro i m H ⟨rfl, hi, Ho', acc, acs, s, e', hI, da, la, hw⟩
  obtain ⟨rs', z', sub⟩ := iz _ _ _ _ hI
  have tr := T i _ H Ho' e' z' fun r hrr => List.mem_cons_of_mem _ (sub r hrr)
  by_cases hlt : i < xs.length
  · refine .inr ?_
    have hxi := List.getElem?_eq_getElem hlt
    obtain ⟨go, yl⟩ := tr.1 _ hxi
    refine ⟨go, fun H' => ∃ (Ho' : Hp) (acc : List β) (acs : List V) (s : S), Same Ho Ho' ∧ I (Dn, .lst acs) s H' Ho' ∧ DL K Ho' acs acc ∧ acs.length ≤ i + 1 ∧ (compS (xs.drop (i + 1)) acc s body).run fun q => (f q).run Φ, fun H' hN => ⟨xs.length - (i + 1), by omega, rfl, hlt, hN⟩, fun x H' y => ?_⟩
    obtain ⟨Ho2, e2, z2, dx⟩ := yl x H' y
    rw [drop_cons hxi] at hw
    refine hx (Dn, .lst acs) _ x s H' Ho2 _ _ (e'.trans e2) (im _ _ _ _ _ _ hI e2 z2) dx ?_
    refine W.mono _ _ _ (fun q hq => ?_) (show (body xs[i] s).run _ from hw)
    obtain ⟨o, s'⟩ := q
    cases o with
    | some y =>
      intro w H'' Ho'' e3 hI3 dw
      obtain ⟨rs3, z3, _⟩ := iz _ _ _ _ hI3
      refine ⟨acs, z3.head, by omega, Ho'', acc ++ [y], acs ++ [w], s', (e'.trans e2).trans e3, ip _ _ _ _ _ _ trivial hI3, (DL.mo (DL.mo da e2) e3).push dw, ?_, hq⟩
      rw [List.length_append]
      exact Nat.succ_le_succ la
    | none =>
      intro H'' Ho'' e3 hI3
      exact ⟨Ho'', acc, acs, s', (e'.trans e2).trans e3, hI3, DL.mo (DL.mo da e2) e3, Nat.le_succ_of_le la, hq⟩
  · have e : i = xs.length := by omega
    subst e
    refine .inl ⟨tr.2 (Nat.le_refl _), ?_⟩
    rw [List.drop_length] at hw
    exact k acc s Dn acs H Ho' e' hI da hw
/-! ### where ways meet -/
/-! ### errors -/
def ExP {α : Type} (N : α → Prop) (R : Er → Prop) : Ex α → Prop
  | .ok a => N a
  | .er e => R e
theorem exP_ok {α : Type} {N : α → Prop} {R : Er → Prop} {a : α} (h : ExP N R (.ok a)) : N a := h
theorem exP_er {α : Type} {N : α → Prop} {R : Er → Prop} {e : Er} (h : ExP N R (.er e)) : R e := h
def W.exm {α β : Type} (c : W (Ex α)) (f : α → W β) (g : Er → W β) : W β := W.bind c fun r => match r with
  | .ok a => f a
  | .er e => g e
/-- where nothing may be raised -/
def W.sure {α : Type} (c : W (Ex α)) : W α := W.exm c W.ret fun _ => W.bad
theorem run_exm {α β : Type} {c : W (Ex α)} {f : α → W β} {g : Er → W β} {Φ : β → Prop} (h : (W.exm c f g).run Φ) : c.run (ExP (fun a => (f a).run Φ) fun e => (g e).run Φ) :=
  W.mono _ _ _ (fun r hr => by cases r with | ok a => exact hr | er e => exact hr) h
theorem run_sure {α β : Type} {c : W (Ex α)} {f : α → W β} {Φ : β → Prop} (h : (W.bind (W.sure c) f).run Φ) : c.run (ExP (fun a => (f a).run Φ) fun _ => False) := run_exm h
theorem y_callS {sp : Sp} {E : L2.St → XK} {ts : TA} (k : ts σ H fun vs H1 => sp vs H1 Q (E σ)) : tCallS sp E ts σ H Q := k
def tRaise (C : Addr) (Wx : WX) : TS := fun _ σ H => Wx (.ref C) none σ H
theorem y_raise {C : Addr} {Wx : WX} {w : TS} {D : Ends} (k : Wx (.ref C) none σ H) : tSeq (tRaise C Wx) w D σ H := k
variable {cl : Nat → Addr} {Wout : WX} {D : Ends} {u1 : TS} {i : Nat}
/-! ### built-ins by values -/
def rLenZ (K : PySem.W.Frag) : List V → Hp → VK → Prop := fun xs H Q => ∃ p ys, xs = [.ref p] ∧ (SqL K H p ys ∨ SqT K H p ys) ∧ Q (.int ys.length) H
def rListZ (K : PySem.W.Frag) : List V → Hp → VK → Prop := fun xs H Q => ∃ p ys, xs = [.ref p] ∧ (SqL K H p ys ∨ SqT K H p ys) ∧ ∀ l, H l = none → Q (.ref l) (upd H l (.lst ys))
theorem y_len {xs : List α} (d : LV K rs Ho v xs) (z : Zs rs H Ho) (k : Q (.int (xs.length : Int)) H) : rLenZ K [v] H Q := by
  obtain ⟨p, vs, rfl, d, s⟩ := LV.rd d z
  refine ⟨p, vs, rfl, .inl s, ?_⟩
  rw [d.len]
  exact k
theorem y_list {xs : List α} (d : LV K rs Ho v xs) (z : Zs rs H Ho) (k : ∀ H' p ws, Zs ((p, .lst ws) :: rs) H' Ho → DL K Ho ws xs → Q (.ref p) H') : rListZ K [v] H Q := by
  obtain ⟨p, vs, rfl, d, s⟩ := LV.rd d z
  exact ⟨p, vs, rfl, .inl s, fun q hq => k _ q _ (z.root hq) d⟩
theorem y_all {xs : List Bool} (d : LV K rs Ho v xs) (z : Zs rs H Ho) (k : Q (.bl (xs.all id)) H) : rAll K [v] H Q := by
  obtain ⟨p, vs, rfl, d, s⟩ := LV.rd d z
  rw [dl_bools d] at s
  exact ⟨p, xs, rfl, s, k⟩
theorem y_sum {xs : List Int} (d : LV K rs Ho v xs) (z : Zs rs H Ho) (k : Q (.int xs.sum) H) : rSum K [v] H Q := by
  obtain ⟨p, vs, rfl, d, s⟩ := LV.rd d z
  rw [dl_ints d] at s
  exact ⟨p, xs, rfl, s, k⟩
theorem y_ckw {r : List V → List V → Hp → VK → Prop} {ts tk : TA} (k : ts σ H fun vs H1 => tk σ H1 fun zs H2 => r vs zs H2 Q) : tCKw r ts tk σ H Q := k
end
end Z
/-! # sorted lists of tuples of ints, any number of them -/
namespace Z
open PySem PySem.Spec PyProof.Rows L2
/-! ### by data -/
class Ktup (α : Type) [Py α] where
  key : α → List Int
  d : Nat
  pos : 1 ≤ d
  len : ∀ x, (key x).length = d
  py : ∀ x : α, toPy x = .tuple ((key x).map PyData.int)
  inj : ∀ x y, key x = key y → x = y
instance : Ktup (Int × Int) := ⟨fun x => [x.1, x.2], 2, by decide, fun _ => rfl, fun _ => rfl, fun x y h => by
  obtain ⟨a, b⟩ := x
  obtain ⟨c, d⟩ := y
  simpa using h⟩
instance : Ktup (P3 Int Int Int) := ⟨fun x => [x.a, x.b, x.c], 3, by decide, fun _ => rfl, fun _ => rfl, fun x y h => by
  obtain ⟨a, b, c⟩ := x
  obtain ⟨d, e, f⟩ := y
  simpa using h⟩
instance : Ktup (P4 Int Int Int Int) := ⟨fun x => [x.a, x.b, x.c, x.d], 4, by decide, fun _ => rfl, fun _ => rfl, fun x y h => by
  obtain ⟨a, b, c, d⟩ := x
  obtain ⟨e, f, g, i⟩ := y
  simpa using h⟩
section
variable {α : Type} [Py α] [Ktup α] {K : PySem.W.Frag} {H Ho : Hp}
theorem DL.perm {vs us : List V} (hp : us.Perm vs) : ∀ {xs : List α}, DL K H vs xs → ∃ ys, ys.Perm xs ∧ DL K H us ys := by
  induction hp with
  | nil => exact fun {xs} h => ⟨xs, List.Perm.refl _, h⟩
  | cons v _ ih =>
    intro xs h
    cases xs with
    | nil => cases h
    | cons x xs =>
      cases h with
      | cons h1 h2 =>
        obtain ⟨ys, p, q⟩ := ih h2
        exact ⟨x :: ys, p.cons x, .cons h1 q⟩
  | swap u v l =>
    intro xs h
    cases xs with
    | nil => cases h
    | cons x xs =>
      cases xs with
      | nil => cases h with | cons _ h2 => cases h2
      | cons y xs =>
        cases h with
        | cons h1 h2 =>
          cases h2 with
          | cons h2 h3 => exact ⟨y :: x :: xs, List.Perm.swap _ _ _, .cons h2 (.cons h1 h3)⟩
  | trans _ _ ih1 ih2 =>
    intro xs h
    obtain ⟨ys, p, q⟩ := ih2 h
    obtain ⟨zs, p2, q2⟩ := ih1 q
    exact ⟨zs, p2.trans p, q2⟩
end
end Z
/-! # Y4: the machine's rules, the written part by its own letter; isinstance -/
namespace Z
open PySem PySem.Spec PyProof.Rows L2
section
variable {α : Type} [Py α]
/-! ### isinstance: the kind is known -/
class Kin (β : Type) [Py β] where
  ty : String
  ok : ∀ {K : PySem.W.Frag} {H : Hp} {v : V} {x : β}, D K H v x → TyX K H v (.type ty)
theorem tyx_list {K : PySem.W.Frag} {H : Hp} {p : Addr} {vs : List V} (h : SqL K H p vs) : TyX K H (.ref p) (.type "list") := by
  rcases h with (h | ⟨o, h⟩) | ⟨o, its, n, h, hc, _⟩
  · exact .base (.lst h)
  · exact .base (.frz h)
  · exact .kList h hc
theorem tyx_tup {K : PySem.W.Frag} {H : Hp} {p : Addr} {vs : List V} (h : SqT K H p vs) : TyX K H (.ref p) (.type "tuple") := by
  rcases h with (h | ⟨o, h⟩) | ⟨o, its, n, h, hc, _⟩
  · exact .base (.tup h)
  · exact .fTuple h
  · exact .kTuple h hc
theorem dp_list {K : PySem.W.Frag} {H : Hp} {v : V} {ds : List PyData} (h : Dq K H v (.list ds)) : TyX K H v (.type "list") := by
  cases h with
  | lst hs _ => exact tyx_list hs
theorem dp_tup {K : PySem.W.Frag} {H : Hp} {v : V} {ds : List PyData} (h : Dq K H v (.tuple ds)) : TyX K H v (.type "tuple") := by
  cases h with
  | tup hs _ => exact tyx_tup (SqT.of hs)
instance : Kin Int := ⟨"int", fun d => by rw [d_int d]; exact .base (.int _)⟩
instance : Kin Bool := ⟨"bool", fun d => by rw [d_bool d]; exact .base (.bl _)⟩
instance : Kin Str := ⟨"str", fun d => by rw [d_str d]; exact .base (.str _)⟩
instance : Kin Unit := ⟨"NoneType", fun d => by cases d; exact .base .non⟩
instance : Kin (List α) := ⟨"list", fun d => dp_list d⟩
instance : Kin (Tp α) := ⟨"tuple", fun d => dp_tup d⟩
instance {β γ : Type} [Py β] [Py γ] : Kin (β × γ) := ⟨"tuple", fun d => dp_tup d⟩
instance {β γ δ : Type} [Py β] [Py γ] [Py δ] : Kin (P3 β γ δ) := ⟨"tuple", fun d => dp_tup d⟩
instance {β γ δ ε : Type} [Py β] [Py γ] [Py δ] [Py ε] : Kin (P4 β γ δ ε) := ⟨"tuple", fun d => dp_tup d⟩
end
section
variable {X : Cx} {K : PySem.W.Frag}
theorem zix_list (hK : X.K = K) : IxR X (rIxL K) := hK ▸ ix_list
theorem zix_tup (hK : X.K = K) : IxR X (rIxT K) := hK ▸ ix_tup
theorem zget_list (hK : X.K = K) : PGet X (rIxL K) := hK ▸ get_list
theorem zsl_list (hK : X.K = K) : SlR X (rSlL K) := hK ▸ sl_list
theorem zop_catS (hK : X.K = K) : OpR X (binaryOp .Add) (rCatS K) := hK ▸ op_catS
theorem zop_eqD (hK : X.K = K) (hu : X.A.units + 64 < cLine) : OpR X (compareOp .Eq) (rEqD K) := hK ▸ op_eqD hu
theorem zop_neD (hK : X.K = K) (hu : X.A.units + 64 < cLine) : OpR X (compareOp .NotEq) (rNeD K) := hK ▸ op_neD hu
theorem zlen (hK : X.K = K) : CallR X (.builtin "len") (rLenZ K) := hK ▸ call_len_seq
theorem zlist (hK : X.K = K) : CallR X (.type "list") (rListZ K) := hK ▸ call_list_of
theorem zisi (hK : X.K = K) : CallR X (.builtin "isinstance") (rIsi K) := hK ▸ call_isi
theorem zall (hK : X.K = K) (hc : X.calm = true) : CallR X (.builtin "all") (rAll K) := hK ▸ cr_all hc
theorem zpi_list {tg l : Expr} {tl : TE} (hK : X.K = K) (hl : PE X l tl) : PI X tg l (iList K tl) := hK ▸ pi_list hl
theorem zsum (hK : X.K = K) (hc : X.calm = true) : CallR X (.builtin "sum") (rSum K) := hK ▸ cr_sum hc
theorem zop_inD (hK : X.K = K) (hu : X.A.units + 65 < cLine) : OpR X (compareOp .In) (rInD K) := hK ▸ op_inD hu
theorem zop_notInD (hK : X.K = K) (hu : X.A.units + 65 < cLine) : OpR X (compareOp .NotIn) (rNotInD K) := hK ▸ op_notInD hu
end
theorem zpg_tup {X : Cx} {K : PySem.W.Frag} {es : List Expr} {k : Nat} {t : TGs} {n : Nat} {pos : Pos} (hK : X.K = K) (hc : X.calm = true) (h : PGs X es t)
    (hn : (assignEach es X.env).length = n := by rfl) (hst : (assignEach es X.env).findIdx? (·.1) = none := by rfl) : PG X (.Tuple es k pos) (gTup K n t) := hK ▸ pg_tup hc h hn hst
/-- a def that stands at f under the name x -/
structure Cal (P : Program) (w : World) (K : PySem.W.Frag) (mg : Str → Option Value) (base : Heap) (CX : CXT) (x : Str) (ps : List Str) (k : Nat) (sp : Sp) (f : Addr) (fd : FuncData) : Prop where
  ok : FnOk P w K mg base CX k f fd ps sp
  g : mg x = some (.ref f)
  kp : PySem.W.keepIn K (.ref f) = true
  b : Binds K fd ps []
section
variable {X : Cx} {K : PySem.W.Frag} {x n m : Str} {c : Value} {C : Addr} {i : Nat} {body suite : List Stmt} {b₀ : Stmt} {p p2 np pos pos' : Pos} {j : Nat} {tb : WX → TS} {ts : Addr → Value → Option Addr → TS} {W Wout : WX} {bmB : List Value} {B newId initId : String}
theorem zps_raise (hK : X.K = K) (hc : X.calm = true) (tk : Takes X W) (q : PySem.W.excIn K C [.type "ValueError", .type "Exception", .type "BaseException", .type "object"] "ValueError.__new__" = true) (gC : X.mg x = some (.ref C)) (kC : PySem.W.keepIn K (.ref C) = true)
    (h1 : PySem.W.subIn K (.ref C) (.type "BaseException") = some true) (h2 : PySem.W.typeIn K (.ref C) = some (.type "type")) (hg : Gl X x) (hdb : (x == ("__debug__" : Str)) = false := by decide) :
    PS X (.Raise (some (.Call (.Name x p) [.Constant (.str m) j p2] [] pos)) none pos') (tRaise C W) := by
  subst hK
  exact ps_raise hc tk (pmk_own PySem.F.excBase_ValueError q gC kC (raises_own h1 h2) hg hdb)
end
section
variable {σ : L2.St} {H : Hp} {K : PySem.W.Frag}
inductive TCs : TA → List V → Prop where
  | nil : TCs tNil []
  | cons {v : V} {vs : List V} {t : TA} (h : TCs t vs) : TCs (tCons (tC v) t) (v :: vs)
theorem TCs.run {t : TA} {vs : List V} (h : TCs t vs) : ∀ {σ : L2.St} {H : Hp} {Q : List V → Hp → Prop}, Q vs H → t σ H Q := by
  induction h with
  | nil => exact fun q => q
  | cons h ih => exact fun q => ih q
theorem kitAny_or {t c : Value} {cs : List Value} {b r : Bool} (h : PySem.W.kitOne K t c = some b) (hr : PySem.W.kitAny K t cs = some r) : PySem.W.kitAny K t (c :: cs) = some (b || r) := by
  refine kitAny_cons h (fun e => ?_) (fun e => by rw [e]; rfl)
  rw [e]; exact hr
end
end Z
/-! # Yg: what is one's own, by groups of roots -/
namespace Z
open PySem PySem.Spec PyProof.Rows L2
abbrev Grp := List (Addr × HO)
/-- groups, in a row, ahead of the rest -/
def rowG (gs : List Grp) (amb : Grp) : Grp := gs.foldr (· ++ ·) amb
theorem rowG_eq (gs : List Grp) (amb : Grp) : rowG gs amb = gs.flatten ++ amb := by
  induction gs with
  | nil => rfl
  | cons g gs ih => show g ++ rowG gs amb = _; rw [ih, List.flatten_cons, List.append_assoc]
theorem mg0 {g R : Grp} : ∀ r ∈ g, r ∈ g ++ R := fun _ h => List.mem_append_left _ h
theorem mgS {g h R : Grp} (k : ∀ r ∈ g, r ∈ R) : ∀ r ∈ g, r ∈ h ++ R := fun r m => List.mem_append_right _ (k r m)
theorem room65 {k : Nat} {A : Around} (r : Room k A) : A.units + 65 < cLine := by have := r.un; omega
theorem mgN {rs : Grp} : ∀ r ∈ ([] : Grp), r ∈ rs := fun _ m => nomatch m
theorem mgE {g : Grp} : ∀ r ∈ g, r ∈ g := fun _ h => h
section
variable {K : PySem.W.Frag} {H Ho H' Ho' : Hp} {rs : Grp}
theorem sel_nodup {α β : Type} (f : α → β) (l : List (List α)) (is : List Nat) (hn : is.Nodup) (h : (l.flatten.map f).Nodup) : ((is.filterMap fun i => l[i]?).flatten.map f).Nodup := by
  rw [List.map_flatten] at h ⊢
  unfold List.Nodup at h ⊢
  rw [List.pairwise_flatten] at h ⊢
  have sub : ∀ g ∈ (is.filterMap fun i => l[i]?), g ∈ l := fun r hr => by
    obtain ⟨i, _, e⟩ := List.mem_filterMap.mp hr
    exact List.mem_of_getElem? e
  refine ⟨fun g hg => ?_, ?_⟩
  · obtain ⟨r, hr, rfl⟩ := List.mem_map.mp hg
    exact h.1 _ (List.mem_map.mpr ⟨r, sub r hr, rfl⟩)
  · rw [List.pairwise_map]
    have h2 := h.2
    rw [List.pairwise_map] at h2
    refine List.Pairwise.filterMap _ (fun i j hij a ha b hb => ?_) hn
    rw [List.pairwise_iff_getElem] at h2
    have hl1 := (List.getElem?_eq_some_iff.mp ha)
    have hl2 := (List.getElem?_eq_some_iff.mp hb)
    obtain ⟨hi, rfl⟩ := hl1
    obtain ⟨hj, rfl⟩ := hl2
    rcases Nat.lt_or_gt_of_ne hij with c | c
    · exact h2 i j hi hj c
    · exact fun x hx y hy e => h2 j i hj hi c y hy x hx e.symm
/-- some of the groups, in any order -/
theorem Zs.go {rs rs' : Grp} (gs : List Grp) (amb : Grp) (is : List Nat) (z : Zs rs H Ho) (h1 : rs = rowG gs amb := by rfl) (h2 : rs' = rowG (is.filterMap fun i => gs[i]?) amb := by rfl) (hn : is.Nodup := by decide) : Zs rs' H Ho := by
  subst h1 h2
  rw [rowG_eq] at z ⊢
  have sub : ∀ r ∈ (is.filterMap fun i => gs[i]?).flatten, r ∈ gs.flatten := fun r hr => by
    obtain ⟨g, hg, hr⟩ := List.mem_flatten.mp hr
    obtain ⟨i, _, e⟩ := List.mem_filterMap.mp hg
    exact List.mem_flatten.mpr ⟨g, List.mem_of_getElem? e, hr⟩
  have sub2 : ∀ r ∈ (is.filterMap fun i => gs[i]?).flatten ++ amb, r ∈ gs.flatten ++ amb := fun r hr => by
    rcases List.mem_append.mp hr with h | h
    · exact List.mem_append_left _ (sub r h)
    · exact List.mem_append_right _ h
  refine ⟨z.le, fun r hr => z.rt r (sub2 r hr), ?_, fun r hr => z.nt r (sub2 r hr)⟩
  · have nd := z.nd
    rw [List.map_append, List.nodup_append] at nd ⊢
    refine ⟨sel_nodup _ gs is hn nd.1, nd.2.1, fun a ha b hb e => ?_⟩
    obtain ⟨r, hr, rfl⟩ := List.mem_map.mp ha
    exact nd.2.2 _ (List.mem_map.mpr ⟨r, sub r hr, rfl⟩) b hb e
end
/-! ### ways, without data -/
section
variable {α β γ : Type} {Φ : γ → Prop}
theorem run_gd {p : Prop} {c : W γ} (h : (W.guard p c).run Φ) : p ∧ c.run Φ := h
theorem run_opt' {o : Option β} {f : β → W γ} (h : (W.bind (W.opt o) f).run Φ) : ∃ a, o = some a ∧ (f a).run Φ := h
theorem run_itT {A B : W γ} {b : Bool} (h : (W.ite b A B).run Φ) (e : b = true) : A.run Φ := h.1 e
theorem run_itF {A B : W γ} {b : Bool} (h : (W.ite b A B).run Φ) (e : b = false) : B.run Φ := h.2 e
theorem run_bret {e : β} {f : β → W γ} (h : (W.bind (W.ret e) f).run Φ) : (f e).run Φ := h
theorem w_two {b : Bool} {X Y : Prop} (h1 : b = true → X) (h2 : b = false → Y) : if b = true then X else Y := by
  cases b with
  | true => exact iteT (h1 rfl)
  | false => exact iteF (h2 rfl)
theorem exm_mono {c : W (Ex β)} {N N' : β → Prop} {X X' : Er → Prop} (h : c.run (ExP N X)) (h1 : ∀ a, N a → N' a) (h2 : ∀ e, X e → X' e) : c.run (ExP N' X') :=
  c.mono _ _ (fun r hr => by cases r with | ok a => exact h1 a hr | er e => exact h2 e hr) h
theorem run_mono' {c : W β} {N N' : β → Prop} (h : c.run N) (k : ∀ a, N a → N' a) : c.run N' := c.mono _ _ k h
theorem run_mono3 {c : W β} {f : β → W γ} {N : β → Prop} (hw : (W.bind c f).run Φ) (k : ∀ a, (f a).run Φ → N a) : c.run N := c.mono _ _ (fun r h => k r h) hw
theorem run_mono2 {c : W (α × β)} {f : α → β → W γ} {N : α × β → Prop} (hw : (W.bind2 c f).run Φ) (k : ∀ a b, (f a b).run Φ → N (a, b)) : c.run N := c.mono _ _ (fun r h => k r.1 r.2 h) hw
end
/-! ### lists of data of one's own -/
section
variable {K : PySem.W.Frag} {H Ho H' Ho' : Hp} {α β γ : Type} [Py α] [Py β] {Φ : γ → Prop} {R : Grp} {v w : V} {Q : VK}
def OL (K : PySem.W.Frag) (Ho : Hp) (v : V) (xs : List α) (g : Grp) : Prop := ∃ p vs, v = .ref p ∧ DL K Ho vs xs ∧ g = [(p, .lst vs)]
theorem OL.mo {v : V} {xs : List α} {g : Grp} (h : OL K Ho v xs g) (e : Same Ho Ho') : OL K Ho' v xs g := by
  obtain ⟨p, vs, rfl, d, rfl⟩ := h
  exact ⟨p, vs, rfl, DL.mo d e, rfl⟩
theorem OL.mk {p : Addr} {ws : List V} {xs : List α} (d : DL K Ho ws xs) : OL K Ho (.ref p) xs [(p, .lst ws)] := ⟨p, ws, rfl, d, rfl⟩
theorem OL.lv {xs : List α} {g : Grp} (h : OL K Ho v xs g) (m : ∀ r ∈ g, r ∈ R) : LV K R Ho v xs := by
  obtain ⟨p, vs, rfl, d, rfl⟩ := h
  exact ⟨p, vs, rfl, d, .inr (m _ (List.mem_singleton.mpr rfl))⟩
/-- a list of its own stands for good from now on -/
theorem OL.fr {xs : List α} {g : Grp} (h : OL K Ho v xs g) (z : Zs (g ++ R) H Ho) : ∃ Ho', Same Ho Ho' ∧ Zs R H Ho' ∧ Z.D K Ho' v xs := by
  obtain ⟨p, vs, rfl, d, rfl⟩ := h
  exact frz z d
theorem g_tyL {P : Prop} {xs : List α} (d : LV K R Ho v xs) (z : Zs R H Ho) (k : P) : tyV K "list" v H ∧ P := by
  obtain ⟨p, vs, rfl, _, s⟩ := LV.rd d z
  exact ⟨.inl ⟨rfl, _, s⟩, k⟩
theorem g_app {xs : List α} {x : α} {g : Grp} {f : List α → W γ} (z : Zs (g ++ R) H Ho) (o : OL K Ho v xs g) (dx : Z.D K Ho w x) (hw : (W.bind (apd xs x) f).run Φ) (k : ∀ xs' g' H', Zs (g' ++ R) H' Ho → OL K Ho v xs' g' → (f xs').run Φ → Q .non H') : rAppend v [w] H Q := by
  obtain ⟨p, vs, rfl, d, rfl⟩ := o
  exact ⟨p, vs, w, rfl, rfl, z.head, by rw [DL.len d]; exact hw.1, k _ _ _ z.put ⟨p, _, rfl, d.push dx, rfl⟩ hw.2⟩
theorem g_sti {xs : List α} {x : α} {i : Int} {g : Grp} {QH : Hp → Prop} {f : List α → W γ} (z : Zs (g ++ R) H Ho) (o : OL K Ho v xs g) (dx : Z.D K Ho w x) (hw : (W.bind (sti xs i x) f).run Φ) (k : ∀ xs' g' H', Zs (g' ++ R) H' Ho → OL K Ho v xs' g' → (f xs').run Φ → QH H') : rSetL v (.int i) w H QH := by
  obtain ⟨p, vs, rfl, d, rfl⟩ := o
  obtain ⟨j, ej, hw⟩ := hw
  exact ⟨p, vs, i, j, rfl, rfl, z.head, by rw [DL.len d]; exact ej, k _ _ _ z.put ⟨p, _, rfl, DL.set d dx j, rfl⟩ hw⟩
theorem g_popI {xs : List α} {i : Int} {g : Grp} {f : α × List α → W γ} (z : Zs (g ++ R) H Ho) (o : OL K Ho v xs g) (hw : (W.bind (popI xs i) f).run Φ) (k : ∀ t xs' w g' H', Zs (g' ++ R) H' Ho → OL K Ho v xs' g' → Z.D K Ho w t → (f (t, xs')).run Φ → Q w H') : rPopAt v [.int i] H Q := by
  obtain ⟨p, vs, rfl, d, rfl⟩ := o
  exact y_popI (n := 0) z rfl d hw fun t xs' w ws' H' z' d' dw hw => k t xs' w _ H' z' ⟨p, _, rfl, d', rfl⟩ dw hw
/-! ### a value gets a name -/
def LetV (G : V → Prop) (v : V) : Prop := G v
theorem l_asg {u : TS} {te : TE} {D : Ends} {σ : L2.St} {i : Nat} (σ' : V → L2.St) (hσ : ∀ v, σ.set i (some v) = σ' v) (k : te σ H fun v H1 => LetV (fun v => u D (σ' v) H1) v) : tSeq (tAsg te (gName i)) u D σ H := by
  have e : (fun v H1 => LetV (fun v => u D (σ' v) H1) v) = fun v H1 => u D (σ.set i (some v)) H1 := by funext v H1; rw [hσ]; rfl
  rw [e] at k
  exact k
variable {G : V → Prop}
theorem l_n (k : G .non) : LetV G .non := k
theorem l_i {e : Int} {f : Int → W γ} (hw : (W.bind (W.ret e) f).run Φ) (k : ∀ x, (f x).run Φ → G (.int x)) : LetV G (.int e) := k e hw
theorem l_s {e : Str} {f : Str → W γ} (hw : (W.bind (W.ret e) f).run Φ) (k : ∀ x, (f x).run Φ → G (.str x)) : LetV G (.str e) := k e hw
theorem l_d {e : α} {f : α → W γ} (hw : (W.bind (W.ret e) f).run Φ) (d : Z.D K Ho v e) (k : ∀ x v, Z.D K Ho v x → (f x).run Φ → G v) : LetV G v := k e v d hw
theorem l_o {e : List α} {g : Grp} {f : List α → W γ} (hw : (W.bind (W.ret e) f).run Φ) (z : Zs (g ++ R) H Ho) (o : OL K Ho v e g) (k : ∀ x v g, Zs (g ++ R) H Ho → OL K Ho v x g → (f x).run Φ → G v) : LetV G v := k e v g z o hw
/-- what is told stands for good -/
theorem l_fr {P : Prop} {xs : List α} {g : Grp} (o : OL K Ho v xs g) (z : Zs (g ++ R) H Ho) (k : ∀ Ho', Same Ho Ho' → Zs R H Ho' → Z.D K Ho' v xs → P) : P := by
  obtain ⟨Ho', e, z', d⟩ := o.fr z
  exact k Ho' e z' d
/-! ### ways -/
theorem w_t {X Y : Prop} (k : X) : if true = true then X else Y := by simpa using k
theorem w_orP {σ : L2.St} {tu : TT} {QB : Bool → Hp → Prop} {a : Bool} (b : Bool) (h : a = false → QB b H → tu σ H QB) (k : QB (a || b) H) : if a = true then QB true H else tu σ H QB := by
  cases a with
  | true => exact iteT k
  | false => exact iteF (h rfl k)
/-! ways that meet -/
section
variable {S ρ : Type} {b : Bool} {c1 c2 : W S} {f : S → W γ} {σ : L2.St} {D : Ends} {u t1 t2 : TS} {tu : TT} {ta tb : TE} {QB : Bool → Hp → Prop}
theorem w_ifJ (hw : (W.bind (W.ite b c1 c2) f).run Φ) (J : S → L2.St → Hp → Prop)
    (h1 : b = true → c1.run (fun s => ∀ σ' H', J s σ' H' → u D σ' H') → t1 { D with nx := u D } σ H)
    (h2 : b = false → c2.run (fun s => ∀ σ' H', J s σ' H' → u D σ' H') → t2 { D with nx := u D } σ H)
    (k : ∀ s σ' H', J s σ' H' → (f s).run Φ → u D σ' H') : if b = true then t1 { D with nx := u D } σ H else t2 { D with nx := u D } σ H := by
  cases b with
  | true => exact iteT (h1 rfl (W.mono _ _ _ (fun s q σ' H' j => k s σ' H' j q) (hw.1 rfl)))
  | false => exact iteF (h2 rfl (W.mono _ _ _ (fun s q σ' H' j => k s σ' H' j q) (hw.2 rfl)))
theorem w_andJ (hw : (W.bind (W.ite b c1 c2) f).run Φ) (J : S → Bool → Hp → Prop)
    (h1 : b = true → c1.run (fun s => ∀ v H', J s v H' → QB v H') → tu σ H QB)
    (h2 : b = false → c2.run (fun s => ∀ v H', J s v H' → QB v H') → QB false H)
    (k : ∀ s v H', J s v H' → (f s).run Φ → QB v H') : if b = true then tu σ H QB else QB false H := by
  cases b with
  | true => exact iteT (h1 rfl (W.mono _ _ _ (fun s q v H' j => k s v H' j q) (hw.1 rfl)))
  | false => exact iteF (h2 rfl (W.mono _ _ _ (fun s q v H' j => k s v H' j q) (hw.2 rfl)))
theorem w_orJ (hw : (W.bind (W.ite b c1 c2) f).run Φ) (J : S → Bool → Hp → Prop)
    (h1 : b = true → c1.run (fun s => ∀ v H', J s v H' → QB v H') → QB true H)
    (h2 : b = false → c2.run (fun s => ∀ v H', J s v H' → QB v H') → tu σ H QB)
    (k : ∀ s v H', J s v H' → (f s).run Φ → QB v H') : if b = true then QB true H else tu σ H QB := by
  cases b with
  | true => exact iteT (h1 rfl (W.mono _ _ _ (fun s q v H' j => k s v H' j q) (hw.1 rfl)))
  | false => exact iteF (h2 rfl (W.mono _ _ _ (fun s q v H' j => k s v H' j q) (hw.2 rfl)))
theorem w_andVJ (hw : (W.bind (W.ite b c1 c2) f).run Φ) (J : S → V → Hp → Prop)
    (h1 : b = true → c1.run (fun s => ∀ v H', J s v H' → Q v H') → tb σ H Q)
    (h2 : b = false → c2.run (fun s => ∀ v H', J s v H' → Q v H') → Q (.bl false) H)
    (k : ∀ s v H', J s v H' → (f s).run Φ → Q v H') : if b = true then tb σ H Q else Q (.bl false) H := by
  cases b with
  | true => exact iteT (h1 rfl (W.mono _ _ _ (fun s q v H' j => k s v H' j q) (hw.1 rfl)))
  | false => exact iteF (h2 rfl (W.mono _ _ _ (fun s q v H' j => k s v H' j q) (hw.2 rfl)))
end
/-! ### targets -/
section
variable {δ ε : Type} [Py δ] [Py ε] {i j l m : Nat} {x : V} {σ : L2.St} {QS : L2.St → Hp → Prop} {rs : Grp}
theorem c_gt2 {a : α × β} (σ' : V → V → L2.St) (hσ : ∀ v u, (σ.set i (some v)).set j (some u) = σ' v u) (d : Z.D K Ho x a) (z : Zs rs H Ho) (k : ∀ v u, Z.D K Ho v a.1 → Z.D K Ho u a.2 → QS (σ' v u) H) : gTup K 2 (gCons (gName i) (gCons (gName j) gNil)) x σ H QS :=
  y_gt2 d z fun v u d1 d2 => by rw [hσ]; exact k v u d1 d2
theorem c_gt4 {a : P4 α β δ ε} (σ' : V → V → V → V → L2.St) (hσ : ∀ v u w t, (((σ.set i (some v)).set j (some u)).set l (some w)).set m (some t) = σ' v u w t) (d : Z.D K Ho x a) (z : Zs rs H Ho) (k : ∀ v u w t, Z.D K Ho v a.a → Z.D K Ho u a.b → Z.D K Ho w a.c → Z.D K Ho t a.d → QS (σ' v u w t) H) : gTup K 4 (gCons (gName i) (gCons (gName j) (gCons (gName l) (gCons (gName m) gNil)))) x σ H QS :=
  y_gt4 d z fun v u w t d1 d2 d3 d4 => by rw [hσ]; exact k v u w t d1 d2 d3 d4
end
/-! ### lists of unlike things -/
section
class Hc (α : Type) where
  cs : α → List PyData
structure H2 (α β : Type) where
  a : α
  b : β
  deriving DecidableEq
structure H3 (α β γ : Type) where
  a : α
  b : β
  c : γ
  deriving DecidableEq
structure H4 (α β γ δ : Type) where
  a : α
  b : β
  c : γ
  d : δ
  deriving DecidableEq
structure H5 (α β γ δ ε : Type) where
  a : α
  b : β
  c : γ
  d : δ
  e : ε
  deriving DecidableEq
instance {α β : Type} [Py α] [Py β] : Hc (H2 α β) := ⟨fun p => [toPy p.a, toPy p.b]⟩
instance {α β γ : Type} [Py α] [Py β] [Py γ] : Hc (H3 α β γ) := ⟨fun p => [toPy p.a, toPy p.b, toPy p.c]⟩
instance {α β γ δ : Type} [Py α] [Py β] [Py γ] [Py δ] : Hc (H4 α β γ δ) := ⟨fun p => [toPy p.a, toPy p.b, toPy p.c, toPy p.d]⟩
instance {α β γ δ ε : Type} [Py α] [Py β] [Py γ] [Py δ] [Py ε] : Hc (H5 α β γ δ ε) := ⟨fun p => [toPy p.a, toPy p.b, toPy p.c, toPy p.d, toPy p.e]⟩
instance {α : Type} [Hc α] : Py α := ⟨fun p => .list (Hc.cs p)⟩
variable {η : Type} [Hc η]
def OH (K : PySem.W.Frag) (Ho : Hp) (v : V) (x : η) (g : Grp) : Prop := ∃ p vs, v = .ref p ∧ DqAll K Ho vs (Hc.cs x) ∧ g = [(p, .lst vs)]
theorem OH.mo {v : V} {x : η} {g : Grp} (h : OH K Ho v x g) (e : Same Ho Ho') : OH K Ho' v x g := by
  obtain ⟨p, vs, rfl, d, rfl⟩ := h
  exact ⟨p, vs, rfl, dpAll_mono e _ _ d, rfl⟩
theorem atI_dq {vs : List V} {ds : List PyData} {i : Int} {d : PyData} (h : DqAll K H vs ds) (e : atI ds i = some d) : ∃ v, atI vs i = some v ∧ Dq K H v d := by
  unfold atI at e ⊢
  rw [dpAll_len h]
  cases q : ixN ds.length i with
  | none => rw [q] at e; cases e
  | some j => rw [q] at e; exact dpAll_get h e
theorem h_ix {x : η} {y : β} {i : Int} {g : Grp} (o : OH K Ho v x g) (z : Zs (g ++ R) H Ho) (hj : atI (Hc.cs x) i = some (toPy y)) (k : ∀ w, Z.D K Ho w y → Q w H) : rIxL K v (.int i) H Q := by
  obtain ⟨p, vs, rfl, d, rfl⟩ := o
  obtain ⟨w, ew, dw⟩ := atI_dq d hj
  exact ⟨p, vs, i, w, rfl, rfl, SqL.of z.head, ew, k w dw⟩
theorem h_st {x y : η} {e : β} {i : Int} {j : Nat} {g : Grp} {QH : Hp → Prop} (z : Zs (g ++ R) H Ho) (o : OH K Ho v x g) (dx : Z.D K Ho w e) (hj : ixN (Hc.cs x).length i = some j) (hy : Hc.cs y = (Hc.cs x).set j (toPy e)) (k : ∀ g' H', Zs (g' ++ R) H' Ho → OH K Ho v y g' → QH H') : rSetL v (.int i) w H QH := by
  obtain ⟨p, vs, rfl, d, rfl⟩ := o
  refine ⟨p, vs, i, j, rfl, rfl, z.head, by rw [dpAll_len d]; exact hj, k _ _ z.put ⟨p, _, rfl, ?_, rfl⟩⟩
  rw [hy]
  exact dpAll_set d dx j
theorem OH.fr {x : η} {g : Grp} (h : OH K Ho v x g) (z : Zs (g ++ R) H Ho) : ∃ Ho', Same Ho Ho' ∧ Zs R H Ho' ∧ Z.D K Ho' v x := by
  obtain ⟨p, vs, rfl, d, rfl⟩ := h
  have z : Zs ((p, .lst vs) :: R) H Ho := z
  have e : Same Ho (upd Ho p (.lst vs)) := Same.new z.headN
  exact ⟨_, e, z.freeze, .lst (SqL.of upd_same) (dpAll_mono e _ _ d)⟩
theorem h_nm {P : Prop} {e : η} {g : Grp} {f : η → W γ} (hw : (W.bind (W.ret e) f).run Φ) (o : OH K Ho v e g) (k : ∀ x, OH K Ho v x g → (f x).run Φ → P) : P := k e o hw
theorem h_nmL {P : Prop} {e : List α} {g : Grp} {f : List α → W γ} (hw : (W.bind (W.ret e) f).run Φ) (o : OL K Ho v e g) (k : ∀ x, OL K Ho v x g → (f x).run Φ → P) : P := k e o hw
theorem h_o {G : V → Prop} {e : η} {g : Grp} {f : η → W γ} (hw : (W.bind (W.ret e) f).run Φ) (z : Zs (g ++ R) H Ho) (o : OH K Ho v e g) (k : ∀ x v g, Zs (g ++ R) H Ho → OH K Ho v x g → (f x).run Φ → G v) : LetV G v := k e v g z o hw
/-- the display [a, b, ..] of unlike things -/
theorem h_lst {vs : List V} {x : η} (z : Zs R H Ho) (hx : DqAll K Ho vs (Hc.cs x)) (hl : vs.length ≤ sizeLine) (k : ∀ H' p g, Zs (g ++ R) H' Ho → OH K Ho (.ref p) x g → Q (.ref p) H') : vs.length ≤ sizeLine ∧ ∀ p, H p = none → Q (.ref p) (upd H p (.lst vs)) :=
  ⟨hl, fun p hp => k _ p _ (z.root hp) ⟨p, _, rfl, hx, rfl⟩⟩
end
end
section
variable {K : PySem.W.Frag} {H Ho H' Ho' : Hp} {α β γ : Type} [Py α] [Py β] {Φ : γ → Prop} {R rs : Grp} {v w : V} {Q : VK} {σ : L2.St}
theorem y_get {P : Prop} {x : Option β} {f : β → W γ} (d : Z.D K Ho v x) (hw : (W.bind (W.opt x) f).run Φ) (k : ∀ t, Z.D K Ho v t → (f t).run Φ → P) : P := by
  obtain ⟨t, rfl, hw⟩ := hw
  exact k t d hw
theorem y_rg1 {ta : TE} {QR : Int → Int → Hp → Prop} (k : ta σ H fun x H1 => ∃ n, x = .int n ∧ QR 0 n H1) : tRg1 ta σ H QR := k
end
/-! ### what is asked of a value, not taken apart too early -/
section
variable {K : PySem.W.Frag} {H Ho H' Ho' : Hp} {α β γ : Type} [Py α] [Py β] {Φ : γ → Prop} {rs r0 : Grp} {v w u : V} {vs : List V} {Q : VK} {σ : L2.St} {ts : TA} {te : TE} {R : It → Hp → Prop}
def LstK (Q : VK) (vs : List V) (H : Hp) : Prop := vs.length ≤ sizeLine ∧ ∀ p, H p = none → Q (.ref p) (upd H p (.lst vs))
def TupK (Q : VK) (vs : List V) (H : Hp) : Prop := vs.length ≤ sizeLine ∧ ∀ p, H p = none → Q (.ref p) (upd H p (.tup vs))
theorem k_lst (k : ts σ H fun xs H1 => LstK Q xs H1) : tLst ts σ H Q := k
theorem k_tup (k : ts σ H fun xs H1 => TupK Q xs H1) : tTup ts σ H Q := k
theorem k_lstk {xs : List α} (z : Zs rs H Ho) (d : DL K Ho vs xs) (hl : vs.length ≤ sizeLine) (k : ∀ H' p ws, Zs ((p, .lst ws) :: rs) H' Ho → DL K Ho ws xs → Q (.ref p) H') : LstK Q vs H := y_lstk z d hl k
theorem k_tupk {x : α} (z : Zs rs H Ho) (hl : vs.length ≤ sizeLine) (ds : List PyData) (hx : toPy x = .tuple ds) (d : DqAll K Ho vs ds) (k : ∀ p H' Ho', Same Ho Ho' → Zs rs H' Ho' → Z.D K Ho' (.ref p) x → Q (.ref p) H') : TupK Q vs H := y_tupk z hl ds hx d k
theorem k_hlst {η : Type} [Hc η] {x : η} (z : Zs rs H Ho) (hx : DqAll K Ho vs (Hc.cs x)) (hl : vs.length ≤ sizeLine) (k : ∀ H' p g, Zs (g ++ rs) H' Ho → OH K Ho (.ref p) x g → Q (.ref p) H') : LstK Q vs H := h_lst z hx hl k
def SrcL (K : PySem.W.Frag) (R : It → Hp → Prop) (x : V) (H : Hp) : Prop := ∃ a, x = .ref a ∧ (∃ xs, SqL K H a xs) ∧ R (Itl K a) H
def Src1 (R : It → Hp → Prop) (vs : List V) (H : Hp) : Prop := ∃ j : Int, vs = [.int j] ∧ -(2 ^ 62) ≤ j ∧ j < 2 ^ 62 ∧ R (Itr 0 j.toNat) H
theorem k_iList (k : te σ H fun x H1 => SrcL K R x H1) : iList K te σ H R := k
theorem k_iR1 (k : ts σ H fun vs H1 => Src1 R vs H1) : iRng1 ts σ H R := k
theorem k_srcL {xs : List α} (d : LV K r0 Ho v xs) (hs : ∀ r ∈ r0, r ∈ rs) (z : Zs rs H Ho) (k : ∀ J, Trn K r0 J xs Ho → R J H) : SrcL K R v H := y_srcL d hs z k
theorem k_srcR1 {n : Int} (hg : rngOk 0 n) (k : ∀ J, Trn K [] J (rng 0 n) Ho → R J H) : Src1 R [V.int n] H := y_srcR1 hg k
theorem y_nxS {D : Ends} {u : TS} (k : u D σ H) : tNext { D with nx := u D } σ H := k
end
section
variable {K : PySem.W.Frag} {H Ho H' Ho' : Hp} {α β γ : Type} [Py α] [Py β] {Φ : γ → Prop} {rs R : Grp} {v w : V} {Q : VK} {σ : L2.St} {ta : TA} {D : Ends} {u : TS} {i j : Nat}
theorem not_isNone {x : Option β} : (!x.isNone) = x.isSome := by cases x <;> rfl
def Par2 (G : V → V → Prop) (vs : List V) : Prop := ∃ v w, vs = [v, w] ∧ G v w
theorem l_par (σ' : V → V → L2.St) (hσ : ∀ v w, (σ.set i (some v)).set j (some w) = σ' v w) (k : ta σ H fun vs H1 => Par2 (fun v w => u D (σ' v w) H1) vs) : tSeq (tPar i j ta) u D σ H := by
  have e : (fun vs H1 => Par2 (fun v w => u D (σ' v w) H1) vs) = fun vs H1 => ∃ v w, vs = [v, w] ∧ u D ((σ.set i (some v)).set j (some w)) H1 := by
    funext vs H1
    unfold Par2
    simp only [hσ]
  rw [e] at k
  exact k
theorem l_par2 {G : V → V → Prop} (k : LetV (fun v => LetV (fun w => G v w) w) v) : Par2 G [v, w] := ⟨v, w, rfl, k⟩
end
section
variable {K : PySem.W.Frag} {H Ho : Hp} {rs : Grp} {vs : List V} {Q : VK} {σ : L2.St} {ts : TA}
theorem k_tcs {QV : VK} (z : Zs rs H Ho) (ht : TCs ts vs) (hl : vs.length ≤ sizeLine) (k : ∀ p H' Ho', Same Ho Ho' → Zs rs H' Ho' → H' p = some (.tup vs) → QV (.ref p) H') : tTup ts σ H QV :=
  ht.run ⟨hl, fun p hp => k p _ _ (Same.new (z.free hp)) (z.alloc hp) upd_same⟩
end
end Z
/-! # dicts with int keys and with keys of two ints -/
namespace Z
open PySem L2
abbrev Dc (κ α : Type) := List (κ × α)
section
variable {κ α : Type} [DecidableEq κ]
def valM (m : Dc κ α) (k : κ) : Option α := (m.find? fun p => decide (p.1 = k)).map (·.2)
def putM (m : Dc κ α) (k : κ) (a : α) : Dc κ α := if (m.any fun p => decide (p.1 = k)) = true then m.map (fun p => if p.1 = k then (p.1, a) else p) else m ++ [(k, a)]
end
class DKey (κ : Type) [Py κ] where
  kt : Type
  dec : DecidableEq kt
  key : κ → kt
  inj : ∀ {a b : κ}, key a = key b → a = b
  ho : List (kt × V) → HO
  nt : ∀ kvs, NotTup (ho kvs) := by intro kvs; exact trivial
  get : ∀ {K : PySem.W.Frag} {H Ho : Hp} {v : V} {k : κ} {p : Addr} {kvs : List (kt × V)}, H p = some (ho kvs) → Same Ho H → Z.D K Ho v k → DGet H p v (@valV kt dec kvs (key k))
  put : ∀ {K : PySem.W.Frag} {H Ho : Hp} {v y : V} {k : κ} {p : Addr} {kvs : List (kt × V)}, H p = some (ho kvs) → Same Ho H → Z.D K Ho v k → kvs.length < sizeLine → DPut H p v y (upd H p (ho (@putK kt dec kvs (key k) y)))
  isd : ∀ {H : Hp} {p : Addr} {kvs : List (kt × V)}, H p = some (ho kvs) → IsD H p
instance : DKey Int where
  kt := L2.Key
  dec := inferInstance
  key i := .inl i
  inj h := by cases h; rfl
  ho := .dK
  get e _ d := by rw [d_int d]; exact DGet.k (k := .inl _) e
  put e _ d h := by rw [d_int d]; exact DPut.k (k := .inl _) e h
  isd e := .inl ⟨_, .inl e⟩
instance : DKey (Int × Int) where
  kt := List L2.Key
  dec := inferInstance
  key p := [.inl p.1, .inl p.2]
  inj h := by
    rename_i a b
    obtain ⟨a1, a2⟩ := a
    obtain ⟨b1, b2⟩ := b
    simp only [List.cons.injEq, Sum.inl.injEq, and_true] at h
    rw [h.1, h.2]
  ho := .dT
  get e s d := by
    cases d with
    | tup hs ha =>
      cases ha with
      | cons h1 h2 =>
        cases h2 with
        | cons h3 h4 =>
          cases h4
          rw [d_int h1, d_int h3] at hs
          exact DGet.t e (s _ _ hs)
  put e s d h := by
    cases d with
    | tup hs ha =>
      cases ha with
      | cons h1 h2 =>
        cases h2 with
        | cons h3 h4 =>
          cases h4
          rw [d_int h1, d_int h3] at hs
          exact DPut.t e (s _ _ hs) h
  isd e := .inr ⟨_, .inl e⟩
section
variable {K : PySem.W.Frag} {H Ho H' Ho' : Hp} {κ α γ : Type} [Py κ] [DecidableEq κ] [DKey κ] [Py α] {Φ : γ → Prop} {R : Grp} {v w u : V} {Q : VK} {σ : L2.St}
def DM (K : PySem.W.Frag) (Ho : Hp) (kvs : List (DKey.kt κ × V)) (m : Dc κ α) : Prop := kvs.map (·.1) = m.map (fun p => DKey.key p.1) ∧ DL K Ho (kvs.map (·.2)) (m.map (·.2))
theorem DM.len {kvs : List (DKey.kt κ × V)} {m : Dc κ α} (h : DM K Ho kvs m) : kvs.length = m.length := by
  have := congrArg List.length h.1
  simpa using this
theorem DM.val : ∀ {kvs : List (DKey.kt κ × V)} {m : Dc κ α}, DM K Ho kvs m → ∀ k : κ, (valM m k = none → @valV _ DKey.dec kvs (DKey.key k) = none) ∧ ∀ a, valM m k = some a → ∃ x, @valV _ DKey.dec kvs (DKey.key k) = some x ∧ Z.D K Ho x a
  | [], [], _, k => ⟨fun _ => rfl, fun a e => by cases e⟩
  | [], _ :: _, h, _ => by cases h.1
  | _ :: _, [], h, _ => by cases h.1
  | (k1, x) :: kvs, (k2, a) :: m, h, k => by
    obtain ⟨h1, h2⟩ := h
    simp only [List.map_cons, List.cons.injEq] at h1
    cases h2 with
    | cons d ds =>
      have ih := DM.val (kvs := kvs) (m := m) ⟨h1.2, ds⟩ k
      by_cases c : k2 = k
      · have e1 : valM ((k2, a) :: m) k = some a := by simp [valM, List.find?_cons, c]
        have e2 : @valV _ DKey.dec ((k1, x) :: kvs) (DKey.key k) = some x := @valV_pos _ DKey.dec (k1, x) kvs (DKey.key k) (by rw [← c]; exact h1.1)
        rw [e1, e2]
        exact ⟨fun z => (nomatch z), fun b e => ⟨x, rfl, by cases e; exact d⟩⟩
      · have e1 : valM ((k2, a) :: m) k = valM m k := by simp [valM, List.find?_cons, c]
        have e2 : @valV _ DKey.dec ((k1, x) :: kvs) (DKey.key k) = @valV _ DKey.dec kvs (DKey.key k) := @valV_neg _ DKey.dec (k1, x) kvs (DKey.key k) (fun z => c (DKey.inj (h1.1.symm.trans z)))
        rw [e1, e2]
        exact ih
theorem valM_any (k : κ) : ∀ m : Dc κ α, (m.any fun p => decide (p.1 = k)) = (valM m k).isSome
  | [] => rfl
  | p :: r => by
    rw [List.any_cons]
    by_cases e : p.1 = k
    · have : valM (p :: r) k = some p.2 := by simp [valM, List.find?_cons, e]
      rw [this, decide_eq_true e]; rfl
    · have : valM (p :: r) k = valM r k := by simp [valM, List.find?_cons, e]
      rw [this, decide_eq_false e, Bool.false_or, valM_any k r]
theorem DM.some {kvs : List (DKey.kt κ × V)} {m : Dc κ α} (h : DM K Ho kvs m) (k : κ) : (@valV _ DKey.dec kvs (DKey.key k)).isSome = (valM m k).isSome := by
  obtain ⟨h1, h2⟩ := h.val k
  cases e : valM m k with
  | none => rw [h1 e]; rfl
  | some a => obtain ⟨x, ex, _⟩ := h2 a e; rw [ex]; rfl
theorem DM.mapped {x : V} {a : α} (k : κ) (d : Z.D K Ho x a) : ∀ {kvs : List (DKey.kt κ × V)} {m : Dc κ α}, DM K Ho kvs m →
    DM K Ho (kvs.map fun kv => @ite _ (kv.1 = DKey.key k) (DKey.dec kv.1 (DKey.key k)) (kv.1, x) kv) (m.map fun p => if p.1 = k then (p.1, a) else p)
  | [], [], _ => ⟨rfl, .nil⟩
  | [], _ :: _, h => by cases h.1
  | _ :: _, [], h => by cases h.1
  | (k1, y) :: kvs, (k2, b) :: m, h => by
    obtain ⟨h1, h2⟩ := h
    simp only [List.map_cons, List.cons.injEq] at h1
    cases h2 with
    | cons e es =>
      obtain ⟨i1, i2⟩ := DM.mapped k d (kvs := kvs) (m := m) ⟨h1.2, es⟩
      by_cases c : k2 = k
      · have c' : k1 = DKey.key k := by rw [← c]; exact h1.1
        refine ⟨?_, ?_⟩
        · rw [List.map_cons, List.map_cons, List.map_cons, List.map_cons, i1, if_pos c, if_pos c']
          show k1 :: _ = DKey.key k2 :: _
          rw [h1.1]
        · rw [List.map_cons, List.map_cons, List.map_cons, List.map_cons, if_pos c, if_pos c']
          exact .cons d i2
      · have c' : ¬ k1 = DKey.key k := fun z => c (DKey.inj (h1.1.symm.trans z))
        refine ⟨?_, ?_⟩
        · rw [List.map_cons, List.map_cons, List.map_cons, List.map_cons, i1, if_neg c, if_neg c']
          show k1 :: _ = DKey.key k2 :: _
          rw [h1.1]
        · rw [List.map_cons, List.map_cons, List.map_cons, List.map_cons, if_neg c, if_neg c']
          exact .cons e i2
theorem DM.put {x : V} {a : α} {k : κ} {kvs : List (DKey.kt κ × V)} {m : Dc κ α} (h : DM K Ho kvs m) (d : Z.D K Ho x a) : DM K Ho (@putK _ DKey.dec kvs (DKey.key k) x) (putM m k a) := by
  unfold putK putM
  rw [@valV_any _ DKey.dec, valM_any, h.some k]
  split
  · exact DM.mapped k d h
  · refine ⟨?_, ?_⟩
    · rw [List.map_append, List.map_append, h.1]; rfl
    · rw [List.map_append, List.map_append]
      exact DL.push h.2 d
theorem DM.mo {kvs : List (DKey.kt κ × V)} {m : Dc κ α} (h : DM K Ho kvs m) (e : Same Ho Ho') : DM K Ho' kvs m := ⟨h.1, DL.mo h.2 e⟩
/-- a dict of its own -/
def OD (K : PySem.W.Frag) (Ho : Hp) (v : V) (m : Dc κ α) (g : Grp) : Prop := ∃ p kvs, v = .ref p ∧ DM K Ho kvs m ∧ g = [(p, DKey.ho (κ := κ) kvs)]
theorem OD.mo {m : Dc κ α} {g : Grp} (h : OD K Ho v m g) (e : Same Ho Ho') : OD K Ho' v m g := by
  obtain ⟨p, kvs, rfl, d, rfl⟩ := h
  exact ⟨p, kvs, rfl, d.mo e, rfl⟩
/-- a dict that is read -/
def BD (K : PySem.W.Frag) (R : Grp) (Ho : Hp) (v : V) (m : Dc κ α) : Prop := ∃ g, OD K Ho v m g ∧ ∀ r ∈ g, r ∈ R
theorem BD.mo {m : Dc κ α} (h : BD K R Ho v m) (e : Same Ho Ho') : BD K R Ho' v m := by
  obtain ⟨g, o, s⟩ := h
  exact ⟨g, o.mo e, s⟩
theorem BD.sub {m : Dc κ α} {R' : Grp} (h : BD K R Ho v m) (e : ∀ r ∈ R, r ∈ R') : BD K R' Ho v m := by
  obtain ⟨g, o, s⟩ := h
  exact ⟨g, o, fun r m => e r (s r m)⟩
theorem BD.rd {m : Dc κ α} (h : BD K R Ho v m) (z : Zs R H Ho) : ∃ p kvs, v = .ref p ∧ DM K Ho kvs m ∧ H p = some (DKey.ho (κ := κ) kvs) := by
  obtain ⟨g, ⟨p, kvs, rfl, d, rfl⟩, s⟩ := h
  exact ⟨p, kvs, rfl, d, (z.rt _ (s _ (List.mem_singleton.mpr rfl))).1⟩
/-! reading -/
theorem zsl_tup {X : Cx} (hK : X.K = K) : SlR X (rSlT K) := hK ▸ sl_tup
theorem dpAll_cut {vs : List V} {ds : List PyData} (h : DqAll K H vs ds) (lo hi : Option Int) : DqAll K H (cutV vs lo hi) (Z.cut ds lo hi) := by
  unfold cutV Z.cut
  rw [dpAll_len h]
  exact dpAll_take (dpAll_drop h _) _
theorem y_slT {β δ : Type} [Py β] [Py δ] {x : β} {y : δ} {lo hi : Option Int} (d : Z.D K Ho v x) (z : Zs R H Ho) (hj : ∃ ds, toPy x = .tuple ds ∧ ¬ (HT.sIx ds.length 0 lo = 0 ∧ HT.sIx ds.length ds.length hi = ds.length) ∧ toPy y = .tuple (Z.cut ds lo hi))
    (k : ∀ p H' Ho', Same Ho Ho' → Zs R H' Ho' → Z.D K Ho' (.ref p) y → Q (.ref p) H') : rSlT K v lo hi H Q := by
  obtain ⟨ds, e1, e2, e3⟩ := hj
  have d : Dq K Ho v (toPy x) := d
  rw [e1] at d
  cases d with
  | tup hs ha =>
    refine ⟨_, _, rfl, SqT.of (z.le _ _ hs), by rw [dpAll_len ha]; exact e2, fun q hq => ?_⟩
    have nf := z.free hq
    refine k q _ _ (Same.new nf) (z.alloc hq) ?_
    show Dq K _ _ (toPy y)
    rw [e3]
    exact .tup upd_same (dpAll_mono (Same.new nf) _ _ (dpAll_cut ha lo hi))
/-! tuples of one kind, of any length -/
end
end Z
/-! # d.setdefault(k, v), k a tuple -/
namespace Z
open PySem PySem.Spec PyProof.Rows L2
end Z
/-! # a dict of its own whose values are lists of its own -/
namespace Z
open PySem L2
section
variable {K : PySem.W.Frag} {H Ho H' Ho' : Hp} {κ α γ : Type} [Py κ] [DecidableEq κ] [DKey κ] [Py α] {Φ : γ → Prop} {R : Grp} {v w u : V} {Q : VK} {σ : L2.St}
/-- an entry: the key, the list's place, what it holds -/
abbrev Ent (κ : Type) [Py κ] [DKey κ] := DKey.kt κ × (Addr × List V)
inductive EM (K : PySem.W.Frag) (Ho : Hp) : List (Ent κ) → Dc κ (List α) → Prop
  | nil : EM K Ho [] []
  | cons {e : Ent κ} {es : List (Ent κ)} {k : κ} {xs : List α} {m : Dc κ (List α)} (hk : e.1 = DKey.key k) (d : DL K Ho e.2.2 xs) (hn : valM m k = none) (h : EM K Ho es m) : EM K Ho (e :: es) ((k, xs) :: m)
def rowsE (es : List (Ent κ)) : Grp := es.map fun e => (e.2.1, HO.lst e.2.2)
def kvsE (es : List (Ent κ)) : List (DKey.kt κ × V) := es.map fun e => (e.1, V.ref e.2.1)
theorem EM.mo {es : List (Ent κ)} {m : Dc κ (List α)} (h : EM K Ho es m) (e : Same Ho Ho') : EM K Ho' es m := by
  induction h with
  | nil => exact .nil
  | cons hk d hn _ ih => exact .cons hk (DL.mo d e) hn ih
theorem EM.len {es : List (Ent κ)} {m : Dc κ (List α)} (h : EM K Ho es m) : es.length = m.length := by
  induction h with
  | nil => rfl
  | cons _ _ _ _ ih => simp [ih]
theorem valM_put' {k j : κ} {a : α} : ∀ {m : Dc κ α}, valM m j = none → j ≠ k → valM (m.map fun p => if p.1 = k then (p.1, a) else p) j = none
  | [], _, _ => rfl
  | (q, b) :: m, h, hne => by
    by_cases c : q = j
    · simp [valM, c] at h
    · have hm : valM m j = none := by simpa [valM, c] using h
      have ih := valM_put' (a := a) hm hne
      rw [List.map_cons]
      by_cases d : q = k
      · rw [if_pos d]
        simpa [valM, c] using ih
      · rw [if_neg d]
        simpa [valM, c] using ih
theorem map_none {k : κ} {a : α} : ∀ {m : Dc κ α}, valM m k = none → (m.map fun p => if p.1 = k then (p.1, a) else p) = m
  | [], _ => rfl
  | (q, b) :: m, h => by
    by_cases c : q = k
    · simp [valM, c] at h
    · have hm : valM m k = none := by simpa [valM, c] using h
      rw [List.map_cons, if_neg c, map_none hm]
theorem valM_app {k j : κ} {a : α} : ∀ {m : Dc κ α}, valM m j = none → j ≠ k → valM (m ++ [(k, a)]) j = none
  | [], _, hne => by
    have : ¬ k = j := fun e => hne e.symm
    simp [valM, this]
  | (q, b) :: m, h, hne => by
    by_cases c : q = j
    · simp [valM, c] at h
    · have hm : valM m j = none := by simpa [valM, c] using h
      have ih := valM_app (a := a) hm hne
      rw [List.cons_append]
      simpa [valM, c] using ih
/-- a new entry -/
theorem EM.snoc {es : List (Ent κ)} {m : Dc κ (List α)} (h : EM K Ho es m) {k : κ} (hn : valM m k = none) (q : Addr) : EM K Ho (es ++ [(DKey.key k, q, [])]) (m ++ [(k, [])]) := by
  induction h with
  | nil => exact .cons rfl .nil rfl .nil
  | @cons e es k1 xs m hk d h0 h ih =>
    have c : k1 ≠ k := fun c => by simp [valM, c] at hn
    have hm : valM m k = none := by simpa [valM, c] using hn
    exact .cons hk d (valM_app h0 c) (ih hm)
/-- all lists stand for good from now on -/
theorem EM.fr {es : List (Ent κ)} {m : Dc κ (List α)} (h : EM K Ho es m) : ∀ {R : Grp}, Zs (rowsE es ++ R) H Ho → ∃ Ho', Same Ho Ho' ∧ Zs R H Ho' ∧ DL K Ho' ((kvsE es).map (·.2)) (m.map (·.2)) := by
  induction h with
  | nil => exact fun z => ⟨Ho, Same.refl _, z, .nil⟩
  | @cons e es k xs m hk d hn h ih =>
    intro R z
    have z1 : Zs ((e.2.1, HO.lst e.2.2) :: (rowsE es ++ R)) H Ho := z
    have z2 : Zs (rowsE es ++ ((e.2.1, HO.lst e.2.2) :: R)) H Ho := z1.perm List.perm_middle.symm
    obtain ⟨Ho1, s1, z3, d1⟩ := ih z2
    obtain ⟨Ho2, s2, z4, d2⟩ := OL.fr (R := R) (OL.mk (p := e.2.1) (DL.mo d s1)) z3
    exact ⟨Ho2, s1.trans s2, z4, .cons d2 (DL.mo d1 s2)⟩
/-- the entry of a key -/
theorem EM.val {es : List (Ent κ)} {m : Dc κ (List α)} (h : EM K Ho es m) (k : κ) : (valM m k = none ∧ @valV _ DKey.dec (kvsE es) (DKey.key k) = none) ∨
    ∃ (i : Nat) (e : Ent κ) (xs : List α), es[i]? = some e ∧ valM m k = some xs ∧ @valV _ DKey.dec (kvsE es) (DKey.key k) = some (.ref e.2.1) ∧ DL K Ho e.2.2 xs ∧
      ∀ (w : V) (x : α), Z.D K Ho w x → EM K Ho (es.set i (e.1, e.2.1, e.2.2 ++ [w])) (putM m k (xs ++ [x])) := by
  induction h with
  | nil => exact .inl ⟨rfl, rfl⟩
  | @cons e es k1 xs m hk d hn h ih =>
    by_cases c : k1 = k
    · subst c
      refine .inr ⟨0, e, xs, rfl, by simp [valM], ?_, d, fun w x dw => ?_⟩
      · exact @valV_pos _ DKey.dec (e.1, V.ref e.2.1) (kvsE es) (DKey.key k1) hk
      · have hm : putM ((k1, xs) :: m) k1 (xs ++ [x]) = (k1, xs ++ [x]) :: m := by
          unfold putM
          rw [List.any_cons, decide_eq_true rfl, Bool.true_or, if_pos rfl, List.map_cons, if_pos rfl, map_none hn]
        rw [hm]
        exact .cons hk (DL.push d dw) hn h
    · have e1 : ∀ {m : Dc κ (List α)}, valM ((k1, xs) :: m) k = valM m k := by intro m; simp [valM, c]
      have e2 : @valV _ DKey.dec (kvsE (e :: es)) (DKey.key k) = @valV _ DKey.dec (kvsE es) (DKey.key k) := @valV_neg _ DKey.dec (e.1, V.ref e.2.1) (kvsE es) (DKey.key k) (fun z => c (DKey.inj (hk.symm.trans z)))
      rcases ih with ⟨a, b⟩ | ⟨i, e', ys, g1, g2, g3, g4, g5⟩
      · exact .inl ⟨e1.trans a, e2.trans b⟩
      · refine .inr ⟨i + 1, e', ys, g1, e1.trans g2, e2.trans g3, g4, fun w x dw => ?_⟩
        have hm : putM ((k1, xs) :: m) k (ys ++ [x]) = (k1, xs) :: putM m k (ys ++ [x]) := by
          have ha : (m.any fun p => decide (p.1 = k)) = true := by rw [valM_any, g2]; rfl
          unfold putM
          rw [List.any_cons, ha, Bool.or_true, if_pos rfl, if_pos rfl, List.map_cons, if_neg c]
        rw [hm]
        refine .cons hk d ?_ (g5 w x dw)
        have ha : (m.any fun p => decide (p.1 = k)) = true := by rw [valM_any, g2]; rfl
        unfold putM
        rw [if_pos ha]
        exact valM_put' hn c
/-- a dict of its own, its values lists of its own -/
def OT (K : PySem.W.Frag) (Ho : Hp) (v : V) (m : Dc κ (List α)) (g : Grp) : Prop := ∃ p es, v = .ref p ∧ EM K Ho es m ∧ g = (p, DKey.ho (κ := κ) (kvsE es)) :: rowsE es
theorem OT.mo {m : Dc κ (List α)} {g : Grp} (h : OT K Ho v m g) (e : Same Ho Ho') : OT K Ho' v m g := by
  obtain ⟨p, es, rfl, d, rfl⟩ := h
  exact ⟨p, es, rfl, d.mo e, rfl⟩
theorem EM.keys {es : List (Ent κ)} {m : Dc κ (List α)} (h : EM K Ho es m) : (kvsE es).map (·.1) = m.map fun p => DKey.key p.1 := by
  induction h with
  | nil => rfl
  | cons hk _ _ _ ih => unfold kvsE at ih ⊢; rw [List.map_cons, List.map_cons, List.map_cons, ih, hk]
/-- its lists stand for good from now on -/
theorem OT.fr {m : Dc κ (List α)} {g : Grp} (h : OT K Ho v m g) (z : Zs (g ++ R) H Ho) : ∃ Ho' g', Same Ho Ho' ∧ Zs (g' ++ R) H Ho' ∧ OD K Ho' v m g' := by
  obtain ⟨p, es, rfl, d, rfl⟩ := h
  have z1 : Zs ((p, DKey.ho (κ := κ) (kvsE es)) :: (rowsE es ++ R)) H Ho := z
  obtain ⟨Ho', s, z2, dl⟩ := d.fr (z1.perm List.perm_middle.symm)
  exact ⟨Ho', [(p, DKey.ho (κ := κ) (kvsE es))], s, z2, p, kvsE es, rfl, ⟨d.keys, dl⟩, rfl⟩
/-- where the list of a key stands -/
def OTat (K : PySem.W.Frag) (Ho : Hp) (v : V) (m : Dc κ (List α)) (k : κ) (u : V) (g : Grp) : Prop := ∃ p es, v = .ref p ∧ EM K Ho es m ∧ g = (p, DKey.ho (κ := κ) (kvsE es)) :: rowsE es ∧ @valV _ DKey.dec (kvsE es) (DKey.key k) = some u
theorem OTat.mo {m : Dc κ (List α)} {k : κ} {g : Grp} (h : OTat K Ho v m k u g) (e : Same Ho Ho') : OTat K Ho' v m k u g := by
  obtain ⟨p, es, rfl, d, rfl, hv⟩ := h
  exact ⟨p, es, rfl, d.mo e, rfl, hv⟩
theorem EM.at {es : List (Ent κ)} {m : Dc κ (List α)} {p : Addr} {k : κ} (h : EM K Ho es m) (hs : (valM m k).isSome = true) : ∃ e : Ent κ, @valV _ DKey.dec (kvsE es) (DKey.key k) = some (.ref e.2.1) ∧ OTat K Ho (.ref p) m k (.ref e.2.1) ((p, DKey.ho (κ := κ) (kvsE es)) :: rowsE es) := by
  rcases h.val k with ⟨a, _⟩ | ⟨i, e, xs, g1, g2, g3, g4, g5⟩
  · rw [a] at hs; cases hs
  · exact ⟨e, g3, p, es, rfl, h, rfl, g3⟩
end
end Z
/-! # what is one's own is lent for a call; `is` of bools; count; isinstance of any value -/
namespace Z
open PySem PySem.Spec PyProof.Rows L2
section
variable {K : PySem.W.Frag} {H Ho : Hp} {R : Grp} {v w : V} {Q : VK} {α : Type} [Py α]
theorem zmt_cnt {X : Cx} (hK : X.K = K) : MtR X "list.count" (rCntI K) := hK ▸ mt_lcount
def cntZ (xs : List Int) (k : Int) : Int := ((xs.count k : Nat) : Int)
theorem y_cnt {xs : List Int} {k : Int} (d : LV K R Ho v xs) (z : Zs R H Ho) (kk : Q (.int (cntZ xs k)) H) : rCntI K v [.int k] H Q := by
  obtain ⟨p, vs, rfl, d, s⟩ := d.rd z
  rw [dl_ints d] at s
  exact ⟨p, xs, k, rfl, rfl, s, kk⟩
def pyK : PyData → String
  | .none => "NoneType" | .bool _ => "bool" | .int _ => "int" | .str _ => "str" | .list _ => "list" | .tuple _ => "tuple" | .dict _ => "dict"
def isP (x : PyData) (T : String) : Bool := (kitB (pyK x) T).getD false
/-- no instance -/
def okP (y : PyData) : Prop := ∀ l, y ≠ .dict l
theorem y_isiP {x : α} {T : String} (d : Z.D K H v x) (hg : okP (toPy x)) (h : (["NoneType", "bool", "int", "str", "list", "tuple", "dict"].all fun k => (kitB k T).isSome) = true) (k : Q (.bl (isP (toPy x) T)) H) : rIsi K [v, .ty T] H Q := by
  have hs : (kitB (pyK (toPy x)) T).isSome = true := by
    refine (List.all_eq_true.mp h) _ ?_
    cases toPy x <;> simp [pyK]
  obtain ⟨b, hb⟩ := Option.isSome_iff_exists.mp hs
  have e : isP (toPy x) T = b := by unfold isP; rw [hb]; rfl
  rw [e] at k
  refine ⟨v, .ty T, _, .type T, b, rfl, .ty T, ?_, kit_ty hb, k⟩
  have d : Dq K H v (toPy x) := d
  generalize toPy x = y at d hg
  cases d with
  | ins _ _ _ => exact absurd rfl (hg _)
  | non => exact .base .non
  | bl b => exact .base (.bl _)
  | int i => exact .base (.int _)
  | str s => exact .base (.str _)
  | lst hs _ => exact tyx_list hs
  | tup hs _ => exact tyx_tup (SqT.of hs)
end
/-! methods inside a comprehension: the written part is named outside -/
section
variable {X : Cx} {K : PySem.W.Frag} {o e : Expr} {es : List Expr} {to : TE} {t : TA} {name : Str} {apos cpos : Pos} {T id : String} {r : V → List V → Hp → VK → Prop}
theorem zpe_bm (hK : X.K = K) (pa : PlainAttrs T) (slot : Slot T name id) (hty : typeOf (.builtin id) = pure (.type "method_descriptor")) (hm : MtR X id r) (ho : PE X o to) (ha : PA X (e :: es) t)
    (hbase : attributeBase o name X.env (eval o X.env) = eval o X.env := by rfl)
    (hfew : ((backTo cpos (starEach (e :: es) X.env)).all (fun x => !x.1) && (backToKw cpos (keywordEach [] X.env)).all (fun x => x.1.isSome)
      && decide ((e :: es).length + ([] : List Keyword).length + (if ([] : List Keyword).isEmpty then 0 else 1) < 30)) = true := by rfl)
    (hline : (apos.endLine == cpos.line) = true := by rfl) (hs : starEach (e :: es) X.env = (false, eval e X.env) :: starEach es X.env := by rfl) (hplain : (backTo cpos (starEach es X.env)).any (·.1) = false := by rfl) :
    PE X (.Call (.Attribute o name apos) (e :: es) [] cpos) (tBM K T r to t) := hK ▸ pe_bm pa slot hty hm ho ha hbase hfew hline hs hplain
end
end Z
/-! # texts -/
namespace Z
open PySem PySem.Spec PyProof.Rows L2
section
variable {K : PySem.W.Frag} {H Ho : Hp} {R : Grp} {v w : V} {Q : VK} {σ : L2.St} {te to : TE} {X : Cx}
def StrR (r : V → List V → Hp → VK → Prop) (te : TE) (σ : L2.St) (Q : VK) (x : V) (H1 : Hp) : Prop := (∃ a, x = .str a) ∧ te σ H1 fun y H2 => r x [y] H2 Q
theorem y_tm1 {r : V → List V → Hp → VK → Prop} (k : to σ H fun x H1 => StrR r te σ Q x H1) : tM1 r to te σ H Q := k
theorem y_tm1s {r : V → List V → Hp → VK → Prop} {a : Str} (k : te σ H fun y H2 => r (.str a) [y] H2 Q) : StrR r te σ Q (.str a) H := ⟨⟨a, rfl⟩, k⟩
/-! f-strings -/
end
end Z
/-! # a tuple of two lists of one's own -/
namespace Z
open PySem L2
section
variable {K : PySem.W.Frag} {H Ho H' Ho' : Hp} {α β γ : Type} [Py α] [Py β] {Φ : γ → Prop} {R g0 g1 g : Grp} {v w u v0 v1 : V} {Q : VK} {σ : L2.St} {xs : List α} {ys : List β} {x : List α × List β}
def TupAt (Ho : Hp) (v v0 v1 : V) : Prop := ∃ p, v = .ref p ∧ Ho p = some (.tup [v0, v1])
theorem TupAt.mo (h : TupAt Ho v v0 v1) (e : Same Ho Ho') : TupAt Ho' v v0 v1 := by
  obtain ⟨p, rfl, hp⟩ := h
  exact ⟨p, rfl, e _ _ hp⟩
def OP (K : PySem.W.Frag) (Ho : Hp) (v : V) (x : List α × List β) (g : Grp) : Prop := ∃ v0 v1 g0 g1, TupAt Ho v v0 v1 ∧ OL K Ho v0 x.1 g0 ∧ OL K Ho v1 x.2 g1 ∧ g = g0 ++ g1
theorem OP.mo (h : OP K Ho v x g) (e : Same Ho Ho') : OP K Ho' v x g := by
  obtain ⟨v0, v1, g0, g1, t, o0, o1, rfl⟩ := h
  exact ⟨v0, v1, g0, g1, t.mo e, o0.mo e, o1.mo e, rfl⟩
theorem p_open {P : Prop} (o : OP K Ho v x g) (z : Zs (g ++ R) H Ho) (k : ∀ v0 v1 g0 g1, TupAt Ho v v0 v1 → OL K Ho v0 x.1 g0 → OL K Ho v1 x.2 g1 → Zs (g0 ++ (g1 ++ R)) H Ho → P) : P := by
  obtain ⟨v0, v1, g0, g1, t, o0, o1, rfl⟩ := o
  rw [List.append_assoc] at z
  exact k v0 v1 g0 g1 t o0 o1 z
theorem p_close {P : Prop} (t : TupAt Ho v v0 v1) (o0 : OL K Ho v0 xs g0) (o1 : OL K Ho v1 ys g1) (z : Zs (g0 ++ (g1 ++ R)) H Ho) (k : ∀ g, OP K Ho v (xs, ys) g → Zs (g ++ R) H Ho → P) : P :=
  k (g0 ++ g1) ⟨v0, v1, g0, g1, t, o0, o1, rfl⟩ (by rw [List.append_assoc]; exact z)
theorem p_tupk (z : Zs R H Ho) (k : ∀ p H' Ho', Same Ho Ho' → Zs R H' Ho' → TupAt Ho' (.ref p) v0 v1 → Q (.ref p) H') : TupK Q [v0, v1] H :=
  ⟨by show 2 ≤ sizeLine; decide, fun p hp => k p _ _ (Same.new (z.free hp)) (z.alloc hp) ⟨p, rfl, upd_same⟩⟩
theorem TupAt.d (t : TupAt Ho v v0 v1) (d0 : Z.D K Ho v0 xs) (d1 : Z.D K Ho v1 ys) : Z.D K Ho v (xs, ys) := by
  obtain ⟨p, rfl, hp⟩ := t
  exact .tup hp (.cons d0 (.cons d1 .nil))
theorem TupAt.rd (t : TupAt Ho v v0 v1) (l0 : LV K R Ho v0 xs) (l1 : LV K R Ho v1 ys) (z : Zs R H Ho) : Z.D K H v (xs, ys) := by
  obtain ⟨p, rfl, hp⟩ := t
  exact .tup (z.le _ _ hp) (.cons (l0.dp z) (.cons (l1.dp z) .nil))
theorem p_ix0 (t : TupAt Ho v v0 v1) (z : Zs R H Ho) (k : Q v0 H) : rIxT K v (.int 0) H Q := by
  obtain ⟨p, rfl, hp⟩ := t
  exact ⟨p, [v0, v1], 0, v0, rfl, rfl, SqT.of (z.le _ _ hp), rfl, k⟩
theorem p_ix1 (t : TupAt Ho v v0 v1) (z : Zs R H Ho) (k : Q v1 H) : rIxT K v (.int 1) H Q := by
  obtain ⟨p, rfl, hp⟩ := t
  exact ⟨p, [v0, v1], 1, v1, rfl, rfl, SqT.of (z.le _ _ hp), rfl, k⟩
theorem p_gt2 {i j : Nat} {QS : L2.St → Hp → Prop} (σ' : V → V → L2.St) (hσ : ∀ v u, (σ.set i (some v)).set j (some u) = σ' v u) (t : TupAt Ho v v0 v1) (z : Zs R H Ho) (k : QS (σ' v0 v1) H) : gTup K 2 (gCons (gName i) (gCons (gName j) gNil)) v σ H QS := by
  obtain ⟨p, rfl, hp⟩ := t
  exact ⟨_, _, rfl, SqT.of (z.le _ _ hp), rfl, _, _, rfl, _, _, rfl, rfl, by rw [hσ]; exact k⟩
theorem p_o {G : V → Prop} {e : List α × List β} {f : List α × List β → W γ} (hw : (W.bind (W.ret e) f).run Φ) (z : Zs (g ++ R) H Ho) (o : OP K Ho v e g) (k : ∀ x v g, Zs (g ++ R) H Ho → OP K Ho v x g → (f x).run Φ → G v) : LetV G v := k e v g z o hw
end
/-! dicts whose keys are four ints -/
instance : DKey (P4 Int Int Int Int) where
  kt := List L2.Key
  dec := inferInstance
  key p := [.inl p.a, .inl p.b, .inl p.c, .inl p.d]
  inj h := by
    rename_i x y
    obtain ⟨a1, a2, a3, a4⟩ := x
    obtain ⟨b1, b2, b3, b4⟩ := y
    simp only [List.cons.injEq, Sum.inl.injEq, and_true] at h
    rw [h.1, h.2.1, h.2.2.1, h.2.2.2]
  ho := .dT
  get e s d := by
    cases d with
    | tup hs ha =>
      cases ha with
      | cons h1 ha => cases ha with
        | cons h2 ha => cases ha with
          | cons h3 ha => cases ha with
            | cons h4 ha =>
              cases ha
              rw [d_int h1, d_int h2, d_int h3, d_int h4] at hs
              exact DGet.t e (s _ _ hs)
  put e s d h := by
    cases d with
    | tup hs ha =>
      cases ha with
      | cons h1 ha => cases ha with
        | cons h2 ha => cases ha with
          | cons h3 ha => cases ha with
            | cons h4 ha =>
              cases ha
              rw [d_int h1, d_int h2, d_int h3, d_int h4] at hs
              exact DPut.t e (s _ _ hs) h
  isd e := .inr ⟨_, .inl e⟩
end Z
/-! # texts, sign by sign; split, int -/
namespace Z
open PySem PySem.Spec PyProof.Rows L2
section
variable {K : PySem.W.Frag} {H Ho : Hp} {R : Grp} {v w : V} {Q : VK} {σ : L2.St} {te to : TE} {X : Cx} {γ : Type} {Φ : γ → Prop}
def rLenS : List V → Hp → VK → Prop := fun xs H Q => ∃ y : Str, xs = [.str y] ∧ y.length ≤ sizeLine ∧ Q (.int (y.length : Nat)) H
theorem zlenS : CallR X (.builtin "len") rLenS := by
  intro pins s σ H xs us Q I r h
  obtain ⟨y, e, hl, q⟩ := h
  exact call_len pins s σ H xs us Q I r ⟨.str y, y.length, e, ⟨hl, rfl⟩, q⟩
theorem y_lenStr {y : Str} (hg : y.length ≤ sizeLine) (k : Q (.int (y.length : Int)) H) : rLenS [.str y] H Q := ⟨y, rfl, hg, k⟩
end
end Z
/-! # a list of two is taken apart -/
namespace Z
open PySem PySem.Spec PyProof.Rows L2
end Z
/-! # data of any kind: items, lengths, kinds -/
namespace Z
open PySem PySem.Spec PyProof.Rows L2
theorem IxR.or {X : Cx} {r r' : R2} (h : IxR X r) (h' : IxR X r') : IxR X (fun x y H Q => r x y H Q ∨ r' x y H Q) := by
  intro value slice pins s σ H x y v u Q I rx ry q hs
  rcases q with q | q
  · exact h _ _ _ _ _ _ _ _ _ _ _ I rx ry q hs
  · exact h' _ _ _ _ _ _ _ _ _ _ _ I rx ry q hs
section
variable {α β γ : Type} [Py α] {K : PySem.W.Frag} {rs : List (Addr × HO)} {H Ho : Hp} {σ : L2.St} {Φ : γ → Prop} {Q : VK} {v : V}
def rIxA (K : PySem.W.Frag) : R2 := fun x y H Q => rIxL K x y H Q ∨ rIxT K x y H Q
theorem zix_any {X : Cx} (hK : X.K = K) : IxR X (rIxA K) := (zix_list hK).or (zix_tup hK)
/-- the item of a list or a tuple -/
def pyIx : PyData → Int → Option PyData
  | .list xs, i => atI xs i
  | .tuple xs, i => atI xs i
  | _, _ => none
def pyLen : PyData → Option Int
  | .list xs => some (xs.length : Int)
  | .tuple xs => some (xs.length : Int)
  | _ => none
theorem atI_dqG {H : Hp} {vs : List V} {ds : List PyData} {i : Int} {d : PyData} (h : DqAll K H vs ds) (e : atI ds i = some d) : ∃ v, atI vs i = some v ∧ Dq K H v d := by
  unfold atI at e ⊢
  have hl := dpAll_len h
  rw [hl]
  cases q : ixN ds.length i with
  | none => rw [q] at e; cases e
  | some j =>
    rw [q] at e
    exact dpAll_get h e
theorem y_ixP {x : PyData} {i : Int} {f : PyData → W γ} (d : D K Ho v x) (z : Zs rs H Ho) (hw : (W.bind (W.opt (pyIx x i)) f).run Φ) (k : ∀ t w, D K Ho w t → (f t).run Φ → Q w H) : rIxA K v (.int i) H Q := by
  obtain ⟨a, ea, hw⟩ := hw
  have d : Dq K Ho v x := d
  cases d with
  | lst hs ha =>
    obtain ⟨w, ew, dw⟩ := atI_dqG ha ea
    exact .inl ⟨_, _, i, w, rfl, rfl, z.le.seq hs, ew, k a w dw hw⟩
  | tup hs ha =>
    obtain ⟨w, ew, dw⟩ := atI_dqG ha ea
    exact .inr ⟨_, _, i, w, rfl, rfl, SqT.of (z.le _ _ hs), ew, k a w dw hw⟩
  | non => cases ea
  | bl _ => cases ea
  | int _ => cases ea
  | str _ => cases ea
  | ins _ _ _ => cases ea
theorem y_lenP {x : PyData} {f : Int → W γ} (d : D K Ho v x) (z : Zs rs H Ho) (hw : (W.bind (W.opt (pyLen x)) f).run Φ) (k : ∀ t, (f t).run Φ → Q (.int t) H) : rLenZ K [v] H Q := by
  obtain ⟨a, ea, hw⟩ := hw
  have d : Dq K Ho v x := d
  cases d with
  | lst hs ha =>
    cases ea
    refine ⟨_, _, rfl, .inl (z.le.seq hs), ?_⟩
    rw [dpAll_len ha]
    exact k _ hw
  | tup hs ha =>
    cases ea
    refine ⟨_, _, rfl, .inr (SqT.of (z.le _ _ hs)), ?_⟩
    rw [dpAll_len ha]
    exact k _ hw
  | non => cases ea
  | bl _ => cases ea
  | int _ => cases ea
  | str _ => cases ea
  | ins _ _ _ => cases ea
/-! isinstance(x, (T1, T2)) -/
/-! data of a kind that is wanted -/
class Fr (α : Type) [Py α] where
  fr : PyData → Option α
  ok : ∀ d a, fr d = some a → d = toPy a
instance : Fr Int := ⟨fun d => match d with | .int i => some i | _ => none, fun d a h => by cases d <;> first | (cases h; rfl) | (cases h)⟩
instance : Fr Str := ⟨fun d => match d with | .str i => some i | _ => none, fun d a h => by cases d <;> first | (cases h; rfl) | (cases h)⟩
instance : Fr Bool := ⟨fun d => match d with | .bool i => some i | _ => none, fun d a h => by cases d <;> first | (cases h; rfl) | (cases h)⟩
def frAll (β : Type) [Py β] [Fr β] : List PyData → Option (List β)
  | [] => some []
  | d :: ds => match (Fr.fr d : Option β), frAll β ds with
    | some a, some as => some (a :: as)
    | _, _ => none
theorem frAll_ok {β : Type} [Py β] [Fr β] : ∀ {ds : List PyData} {as : List β}, frAll β ds = some as → ds = as.map Py.toPy
  | [], as, h => by cases h; rfl
  | d :: ds, as, h => by
    unfold frAll at h
    split at h
    · rename_i a as' e1 e2
      cases h
      rw [List.map_cons, ← frAll_ok e2, Fr.ok d a e1]
    · cases h
instance {β : Type} [Py β] [Fr β] : Fr (List β) := ⟨fun d => match d with | .list xs => frAll β xs | _ => none, fun d a h => by
  cases d <;> first | (cases h; done) | skip
  rename_i xs
  show PyData.list xs = .list (a.map Py.toPy)
  rw [frAll_ok (show frAll β xs = some a from h)]⟩
instance {β β' : Type} [Py β] [Fr β] [Py β'] [Fr β'] : Fr (β × β') := ⟨fun d => match d with
  | .tuple [x, y] => match (Fr.fr x : Option β), (Fr.fr y : Option β') with
    | some a, some b => some (a, b)
    | _, _ => none
  | _ => none, fun d p h => by
  split at h
  · rename_i x y
    split at h
    · rename_i a b e1 e2
      cases h
      rw [Fr.ok _ _ e1, Fr.ok _ _ e2]; rfl
    · cases h
  · cases h⟩
instance {β β' β'' : Type} [Py β] [Fr β] [Py β'] [Fr β'] [Py β''] [Fr β''] : Fr (P3 β β' β'') := ⟨fun d => match d with
  | .tuple [x, y, z] => match (Fr.fr x : Option β), (Fr.fr y : Option β'), (Fr.fr z : Option β'') with
    | some a, some b, some c => some ⟨a, b, c⟩
    | _, _, _ => none
  | _ => none, fun d p h => by
  split at h
  · rename_i x y z
    split at h
    · rename_i a b c e1 e2 e3
      cases h
      rw [Fr.ok _ _ e1, Fr.ok _ _ e2, Fr.ok _ _ e3]; rfl
    · cases h
  · cases h⟩
instance {β β' β'' γ' : Type} [Py β] [Fr β] [Py β'] [Fr β'] [Py β''] [Fr β''] [Py γ'] [Fr γ'] : Fr (P4 β β' β'' γ') := ⟨fun d => match d with
  | .tuple [x, y, z, u] => match (Fr.fr x : Option β), (Fr.fr y : Option β'), (Fr.fr z : Option β''), (Fr.fr u : Option γ') with
    | some a, some b, some c, some e => some ⟨a, b, c, e⟩
    | _, _, _, _ => none
  | _ => none, fun d p h => by
  split at h
  · rename_i x y z u
    split at h
    · rename_i a b c e e1 e2 e3 e4
      cases h
      rw [Fr.ok _ _ e1, Fr.ok _ _ e2, Fr.ok _ _ e3, Fr.ok _ _ e4]; rfl
    · cases h
  · cases h⟩
theorem y_fr {β : Type} [Py β] [Fr β] {x : PyData} {P : Prop} {f : β → W γ} (d : D K Ho v x) (hw : (W.bind (W.opt (Fr.fr x : Option β)) f).run Φ) (k : ∀ t, D K Ho v t → (f t).run Φ → P) : P := by
  obtain ⟨a, ea, hw⟩ := hw
  refine k a ?_ hw
  have e := Fr.ok x a ea
  show Dq K Ho v (toPy a)
  rw [← e]
  exact d
end
/-! xs.extend(ys), ys as it stands -/
end Z
/-! # objects: their fields, their methods, how they are made -/
namespace Z
open PySem PySem.Spec PyProof.Rows L2
/-! fields by their places -/
theorem lk_zip : ∀ {ns : List Str} {vs : List V} {i : Nat} {f : Str} {v : V}, ns.Nodup → ns[i]? = some f → vs[i]? = some v → (ns.zip vs).lookup f = some v
  | [], _, _, _, _, _, h, _ => by cases h
  | _ :: _, [], _, _, _, _, _, h => by cases h
  | n :: ns, w :: vs, 0, f, v, _, h1, h2 => by
    cases h1
    cases h2
    rw [List.zip_cons_cons, List.lookup_cons, beq_self_eq_true]
  | n :: ns, w :: vs, i + 1, f, v, hn, h1, h2 => by
    have hm : f ∈ ns := List.mem_of_getElem? (show ns[i]? = some f from h1)
    have ne : f ≠ n := fun e => (List.nodup_cons.mp hn).1 (e ▸ hm)
    rw [List.zip_cons_cons, List.lookup_cons, beq_eq_false_iff_ne.mpr ne]
    exact lk_zip (List.nodup_cons.mp hn).2 h1 h2
theorem lk_none : ∀ {ns : List Str} {vs : List V} {f : Str}, f ∉ ns → (ns.zip vs).lookup f = none
  | [], _, _, _ => rfl
  | _ :: _, [], _, _ => rfl
  | n :: ns, w :: vs, f, h => by
    have ne : f ≠ n := fun e => h (by rw [e]; exact List.mem_cons_self)
    rw [List.zip_cons_cons, List.lookup_cons, beq_eq_false_iff_ne.mpr ne]
    exact lk_none fun m => h (List.mem_cons_of_mem _ m)
theorem put_zip : ∀ {ns : List Str} {vs : List V} {i : Nat} {f : Str} {v : V}, ns.Nodup → ns[i]? = some f → i < vs.length → putF f v (ns.zip vs) = ns.zip (vs.set i v)
  | [], _, _, _, _, _, h, _ => by cases h
  | _ :: _, [], _, _, _, _, _, h => by simp at h
  | n :: ns, w :: vs, 0, f, v, _, h1, _ => by
    cases h1
    show (if n = n then _ else _) = _
    rw [if_pos rfl]; rfl
  | n :: ns, w :: vs, i + 1, f, v, hn, h1, h2 => by
    have hm : f ∈ ns := List.mem_of_getElem? (show ns[i]? = some f from h1)
    have ne : ¬ n = f := fun e => (List.nodup_cons.mp hn).1 (e ▸ hm)
    show (if n = f then _ else (n, w) :: putF f v (ns.zip vs)) = (n, w) :: ns.zip (vs.set i v)
    rw [if_neg ne, put_zip (List.nodup_cons.mp hn).2 h1 (by simpa using h2)]
theorem put_new : ∀ {ns : List Str} {vs : List V} {f : Str} {v : V}, ns.Nodup → ns[vs.length]? = some f → putF f v (ns.zip vs) = ns.zip (vs ++ [v])
  | [], _, _, _, _, h => by simp at h
  | n :: ns, [], f, v, _, h => by
    cases h
    show [(n, v)] = _
    simp
  | n :: ns, w :: vs, f, v, hn, h => by
    have h : ns[vs.length]? = some f := h
    have hm : f ∈ ns := List.mem_of_getElem? h
    have ne : ¬ n = f := fun e => (List.nodup_cons.mp hn).1 (e ▸ hm)
    show (if n = f then _ else (n, w) :: putF f v (ns.zip vs)) = (n, w) :: ns.zip (vs ++ [v])
    rw [if_neg ne, put_new (List.nodup_cons.mp hn).2 h]
/-- a class of the text -/
structure CF (K : PySem.W.Frag) (q : Addr) (cn : Str) (ns : List Str) : Prop where
  at_ : PySem.W.nsIn K mainGlobals cn = some (some (.ref q))
  cl : Cls K q
  na : ∀ f ∈ ns, NoAttr K q f
  nd : ns.Nodup
  few : ns.length < 1000
theorem CF.eq {K : PySem.W.Frag} {q C : Addr} {cn : Str} {ns : List Str} (c : CF K q cn ns) (h : PySem.W.nsIn K mainGlobals cn = some (some (.ref C))) : q = C := by
  have e := c.at_.symm.trans h
  cases e
  rfl
theorem rowG_app {gs : List Grp} {R : Grp} : rowG gs [] ++ R = rowG gs R := by rw [rowG_eq, rowG_eq, List.append_nil]
def FldK (K : PySem.W.Frag) (Q : VK) (f : Str) (x : V) (H : Hp) : Prop := ∃ a C dx fs v, x = .ref a ∧ H a = some (.ins C dx fs) ∧ Cls K C ∧ NoAttr K C f ∧ fs.lookup f = some v ∧ Q v H
def SFldK (K : PySem.W.Frag) (N : Hp → Prop) (f : Str) (y x : V) (H : Hp) : Prop := ∃ a C dx fs, x = .ref a ∧ H a = some (.ins C dx fs) ∧ Cls K C ∧ NoAttr K C f ∧ fs.length < 1000 ∧ N (upd H a (.ins C dx (putF f y fs)))
def MetK (C : Addr) (m : Str) (G : V → Hp → Prop) (x : V) (H : Hp) : Prop := ∃ a dx fs, x = .ref a ∧ H a = some (.ins C dx fs) ∧ fs.lookup m = none ∧ G x H
def MkK (C : Addr) (G : V → Hp → Prop) (H : Hp) : Prop := ∀ x dx, H x = none → H dx = none → dx ≠ x → G (.ref x) (upd (upd H dx (.own x)) x (.ins C dx []))
def tMethS (C : Addr) (m : Str) (sp : Sp) (E : L2.St → XK) (ta : TE) (t : TA) : TE := fun σ H Q => ta σ H fun x H1 => MetK C m (fun x H1 => t σ H1 fun vs H2 => sp (x :: vs) H2 Q (E σ)) x H1
def tMakeS (C : Addr) (sp : Sp) (E : L2.St → XK) (t : TA) : TE := fun σ H Q => t σ H fun vs H1 => MkK C (fun x H2 => sp (x :: vs) H2 (fun v H3 => v = .non ∧ Q x H3) (E σ)) H1
section
variable {X : Cx} {CX : CXT} {k : Nat} {f C : Addr} {fd : FuncData} {ps : List Str} {sp : Sp} {E : L2.St → XK} {x m : Str} {p pos apos : Pos} {e o : Expr} {es : List Expr} {ta : TE} {t : TA}
theorem passAt0 {σ : L2.St} : PassesAt CX0 X σ (E σ) := fun pins H s e s' I c => pass0 pins σ H s e s' I c
theorem pe_methS' {pl : Sem Bool} (he : PE X o ta) (c : Cls X.K C) (hm : Meth X.K C m f) (F : FnOk X.prog X.w X.K X.mg X.base CX k f fd ps sp) (hr : Room k X.A) (hb : Binds X.K fd ps []) (hx : ∀ σ, PassesAt CX X σ (E σ)) (ha : PA X (e :: es) t)
    (hst : starEach (e :: es) X.env = (false, eval e X.env) :: starEach es X.env := by rfl) (hpl : (backTo pos (starEach es X.env)).any (·.1) = false := by rfl)
    (ht : eval (.Call (.Attribute o m apos) (e :: es) [] pos) X.env = (do
      let ov ← eval o X.env
      standAt apos.atName
      let (f, first) ← holding [ov] (getMethod ov m pl)
      callWith pos f first (backTo pos (starEach (e :: es) X.env)) (backToKw pos (keywordEach [] X.env))) := by rfl) :
    PE X (.Call (.Attribute o m apos) (e :: es) [] pos) (tMethS C m sp E ta t) := by
  refine ⟨fun pins s σ H Q I h => ?_⟩
  refine PySem.W.methodCall_KW (pl := pl) (thn (he.run pins s σ H _ I h) fun u s1 ⟨x, H1, I1, rx, a, dx, fs, ex, ea, l, q⟩ => ?_) ht
  subst ex
  obtain rfl : u = Value.ref a := rx
  refine getmeth_ok I1 ea c hm l ?_
  refine PySem.W.callWith_K (first := [.ref a]) (h₀ := X.base) I.ok.mod.kin hm.kp (thn (ha.run pos pins s1 σ H1 _ I1 q) fun us s2 ⟨vs, H2, I2, r, q2⟩ => ⟨I2.kIn, ?_⟩) hst hpl
  exact run_fnS (us := .ref a :: us) (vs := .ref a :: vs) F hr hb (hx σ) I2 (.cons rfl r) q2
theorem pe_methS0' {pl : Sem Bool} (he : PE X o ta) (c : Cls X.K C) (hm : Meth X.K C m f) (F : FnOk X.prog X.w X.K X.mg X.base CX k f fd ps sp) (hr : Room k X.A) (hb : Binds X.K fd ps []) (hx : ∀ σ, PassesAt CX X σ (E σ))
    (ht : eval (.Call (.Attribute o m apos) [] [] pos) X.env = (do
      let ov ← eval o X.env
      standAt apos.atName
      let (f, first) ← holding [ov] (getMethod ov m pl)
      callWith pos f first (backTo pos (starEach [] X.env)) (backToKw pos (keywordEach [] X.env))) := by rfl) :
    PE X (.Call (.Attribute o m apos) [] [] pos) (tMethS C m sp E ta tNil) := by
  refine ⟨fun pins s σ H Q I h => ?_⟩
  refine PySem.W.methodCall_KW (pl := pl) (thn (he.run pins s σ H _ I h) fun u s1 ⟨x, H1, I1, rx, a, dx, fs, ex, ea, l, q⟩ => ?_) ht
  subst ex
  obtain rfl : u = Value.ref a := rx
  refine getmeth_ok I1 ea c hm l ?_
  exact PySem.W.callWith_K0 (first := [.ref a]) I1.kIn hm.kp (run_fnS (us := [.ref a]) (vs := [.ref a]) F hr hb (hx σ) I1 (.cons rfl .nil) q)
theorem run_makeS {pins : List (Addr × Obj)} {σ : L2.St} {H : Hp} {s : Shared} {Q : VK} {us : List Value} {vs : List V} (M : Mk X.K C f) (F : FnOk X.prog X.w X.K X.mg X.base CX k f fd ps sp) (hr : Room (k + 1) X.A) (hb : Binds X.K fd ps [])
    (hx : PassesAt CX X σ (E σ)) (I : Inv X pins σ H s) (r : Vals vs us) (h : MkK C (fun x H2 => sp (x :: vs) H2 (fun v H3 => v = .non ∧ Q x H3) (E σ)) H) :
    wpAny (model X.prog X.w) X.A (call (.ref C) us) (EP X pins σ Q) X.xe s := by
  have hq := h (s.heap.objs.size + 1) s.heap.objs.size (I.hok.fresh (Nat.le_succ _)) (I.hok.fresh (Nat.le_refl _)) (Nat.ne_of_lt (Nat.lt_succ_self _))
  have I2 := Inv.made (C := C) I
  have r2 : Vals (V.ref (s.heap.objs.size + 1) :: vs) (Value.ref (s.heap.objs.size + 1) :: us) := .cons rfl r
  have hl : (Value.ref (s.heap.objs.size + 1) :: us ++ []).length = ps.length := by
    rw [List.append_nil]
    have e := r2.length
    rw [F.len _ _ _ _ hq] at e
    exact e.symm
  have hb' := hb _ (Value.ref (s.heap.objs.size + 1) :: us) I2.kIn hl
  rw [List.append_nil] at hb'
  refine wpAny_call (make_map (f := f) I.kIn M.makes M.init (beq_iff_eq.mp M.fn) (codeAny_mono (F.run _ X.stack _ _ ⟨Value.ref (s.heap.objs.size + 1) :: us, []⟩ (Value.ref (s.heap.objs.size + 1) :: us) _ _ (E σ) (hr.make C us [])
    (I2.env0.make C us []) hb' r2 hq) fun r s' hq' => ?_))
  cases r with
  | error e => exact hx pins _ _ e s' I2 hq'
  | ok fl =>
    cases fl with
    | ret u =>
      obtain ⟨v, H', I3, rv, ev, q3⟩ := I2.after hq'
      subst ev
      exact ⟨rv, ⟨V.ref (s.heap.objs.size + 1), H', I3, rfl, q3⟩⟩
    | next => exact False.elim hq'
    | brk => exact False.elim hq'
    | cont => exact False.elim hq'
theorem pe_makeS (M : Mk X.K C f) (F : FnOk X.prog X.w X.K X.mg X.base CX k f fd ps sp) (hr : Room (k + 1) X.A) (hg : Gl X x) (hm : X.mg x = some (.ref C)) (hb : Binds X.K fd ps []) (hx : ∀ σ, PassesAt CX X σ (E σ))
    (ha : PA X (e :: es) t) (hdb : (x == ("__debug__" : Str)) = false := by decide) (he : starEach (e :: es) X.env = (false, eval e X.env) :: starEach es X.env := by rfl) (hpl : (backTo pos (starEach es X.env)).any (·.1) = false := by rfl) :
    PE X (.Call (.Name x p) (e :: es) [] pos) (tMakeS C sp E t) := by
  refine ⟨fun pins s σ H Q I h => ?_⟩
  refine wpAny_Call_Name_kw (ld_glob I hg hm ?_ hdb)
  refine PySem.W.callWith_K (h₀ := X.base) I.ok.mod.kin M.kp (thn (ha.run pos pins s σ H _ I h) fun us s1 ⟨vs, H1, I1, r, q⟩ => ⟨I1.kIn, ?_⟩) he hpl
  exact run_makeS M F hr hb (hx σ) I1 r q
theorem zpe_fld {K : PySem.W.Frag} {fl : Str} (hK : X.K = K) (he : PE X e ta) (hb : attributeBase e fl X.env (eval e X.env) = eval e X.env) : PE X (.Attribute e fl pos) (tFld K ta fl) := hK ▸ pe_fld he hb
theorem zps_fld {K : PySem.W.Frag} {fl : Str} {value : Expr} {tv : TE} {pos' : Pos} (hK : X.K = K) (ha : PE X o ta) (hv : PE X value tv) (hs : swapsWith value (some (.Attribute o fl pos')) pos.line X.env = pure false) : PS X (.Assign [.Attribute o fl pos'] value pos) (sFld K ta tv fl) := hK ▸ ps_fld ha hv hs
end
section
variable {K : PySem.W.Frag} {rs R : Grp} {H Ho : Hp} {σ : L2.St} {Q : VK} {QH : Hp → Prop} {v y : V} {a dx q : Addr} {cn f m : Str} {ns : List Str} {vs : List V} {i : Nat} {ta tv : TE} {t : TA} {u : TS} {D : Ends} {C : Addr} {sp : Sp} {E : L2.St → XK} {G : V → Hp → Prop}
theorem y_fld (k : ta σ H fun x H1 => FldK K Q f x H1) : tFld K ta f σ H Q := k
theorem y_sfld (k : tv σ H fun y H1 => LetV (fun y => ta σ H1 fun x H2 => SFldK K (fun H3 => u D σ H3) f y x H2) y) : tSeq (sFld K ta tv f) u D σ H := k
theorem y_meth (k : ta σ H fun x H1 => MetK C m (fun x H1 => t σ H1 fun vs H2 => sp (x :: vs) H2 Q (E σ)) x H1) : tMethS C m sp E ta t σ H Q := k
theorem y_make (k : t σ H fun vs H1 => MkK C (fun x H2 => sp (x :: vs) H2 (fun v H3 => v = .non ∧ Q x H3) (E σ)) H1) : tMakeS C sp E t σ H Q := k
theorem o_fld (c : CF K q cn ns) (hm : ∀ r ∈ ([(a, HO.ins q dx (ns.zip vs))] : Grp), r ∈ rs) (z : Zs rs H Ho) (hn : ns[i]? = some f) (hv : vs[i]? = some v) (k : Q v H) : FldK K Q f (.ref a) H :=
  ⟨a, q, dx, _, v, rfl, (z.rt _ (hm _ List.mem_cons_self)).1, c.cl, c.na f (List.mem_of_getElem? hn), lk_zip c.nd hn hv, k⟩
/-- what an instance that stands for good is as data -/
def pyIns (cn : Str) (ns : List Str) (ds : List PyData) : PyData := .dict [(.str cn, .list (ns.map .str)), (.none, .tuple ds)]
theorem strs_inj : ∀ {ns ms : List Str}, ns.map PyData.str = ms.map PyData.str → ns = ms
  | [], [], _ => rfl
  | [], _ :: _, h => by cases h
  | _ :: _, [], h => by cases h
  | n :: ns, m :: ms, h => by
    rw [List.map_cons, List.map_cons] at h
    injection h with h1 h2
    injection h1 with h1
    rw [h1, strs_inj h2]
theorem dq_ins {d : PyData} {ds : List PyData} (h : Dq K Ho v d) (e : d = pyIns cn ns ds) : ∃ a C dx vs, v = .ref a ∧ PySem.W.nsIn K mainGlobals cn = some (some (.ref C)) ∧ Ho a = some (.ins C dx (ns.zip vs)) ∧ DqAll K Ho vs ds := by
  cases h with
  | @ins a dx C cn' ns' vs ds' hC hs hd =>
    unfold pyIns at e
    injection e with e
    injection e with e1 e2
    injection e1 with e3 e4
    injection e3 with e3
    injection e4 with e4
    injection e2 with e5 _
    injection e5 with _ e6
    injection e6 with e6
    have e7 := strs_inj e4
    subst e3 e7 e6
    exact ⟨a, C, dx, vs, rfl, hC, hs, hd⟩
  | _ => cases e
theorem o_fldD {α β : Type} [Py α] [Py β] {x : α} {w : β} {ds : List PyData} (c : CF K q cn ns) (d : Z.D K Ho v x) (hx : toPy x = pyIns cn ns ds) (z : Zs rs H Ho) (hn : ns[i]? = some f) (hd : ds[i]? = some (toPy w)) (k : ∀ u, Z.D K Ho u w → Q u H) : FldK K Q f v H := by
  obtain ⟨a, C, dx, vs, rfl, hC, hs, ha⟩ := dq_ins d hx
  obtain rfl := c.eq hC
  obtain ⟨u, hu, du⟩ := dpAll_get ha hd
  exact ⟨a, q, dx, _, u, rfl, z.le _ _ hs, c.cl, c.na f (List.mem_of_getElem? hn), lk_zip c.nd hn hu, k u du⟩
theorem len_zip_few {vs : List V} (c : CF K q cn ns) : (ns.zip vs).length < 1000 := by
  rw [List.length_zip]
  have := c.few
  omega
/-- a field gets a value -/
theorem o_sfld (c : CF K q cn ns) (z : Zs ([(a, HO.ins q dx (ns.zip vs))] ++ R) H Ho) (hn : ns[i]? = some f) (hi : i < vs.length) (k : ∀ H', Zs ([(a, HO.ins q dx (ns.zip (vs.set i y)))] ++ R) H' Ho → QH H') : SFldK K QH f y (.ref a) H :=
  ⟨a, q, dx, _, rfl, Zs.head z, c.cl, c.na f (List.mem_of_getElem? hn), len_zip_few c, by
    rw [put_zip c.nd hn hi]
    exact k _ (Zs.put z)⟩
theorem o_nfld (c : CF K q cn ns) (z : Zs ([(a, HO.ins q dx (ns.zip vs))] ++ R) H Ho) (hn : ns[vs.length]? = some f) (k : ∀ H', Zs ([(a, HO.ins q dx (ns.zip (vs ++ [y])))] ++ R) H' Ho → QH H') : SFldK K QH f y (.ref a) H :=
  ⟨a, q, dx, _, rfl, Zs.head z, c.cl, c.na f (List.mem_of_getElem? hn), len_zip_few c, by
    rw [put_new c.nd hn]
    exact k _ (Zs.put z)⟩
theorem o_met (hm : ∀ r ∈ ([(a, HO.ins q dx (ns.zip vs))] : Grp), r ∈ rs) (z : Zs rs H Ho) (hn : m ∉ ns) (k : G (.ref a) H) : MetK q m G (.ref a) H :=
  ⟨a, dx, _, rfl, (z.rt _ (hm _ List.mem_cons_self)).1, lk_none hn, k⟩
theorem o_mk (z : Zs rs H Ho) (k : ∀ a dx H' Ho', Same Ho Ho' → Zs ([(a, HO.ins C dx (ns.zip []))] ++ rs) H' Ho' → G (.ref a) H') : MkK C G H := fun x dx hx hd ne => by
  have e : Same Ho (upd Ho dx (.own x)) := Same.new (z.free hd)
  refine k x dx _ _ e ?_
  have z1 : Zs rs (upd H dx (.own x)) (upd Ho dx (.own x)) := z.alloc hd
  have hx' : (upd H dx (.own x)) x = none := by rw [upd_ne (fun e => ne e.symm)]; exact hx
  have z2 := z1.root (o := HO.ins C dx (ns.zip [])) hx'
  rw [List.zip_nil_right] at z2 ⊢
  exact z2
end
section
variable {β γ : Type} {R : Grp} {H Ho : Hp} {Φ : γ → Prop}
theorem h_nmG {P : β → Prop} {X : Prop} {e : β} {f : β → W γ} (hw : (W.bind (W.ret e) f).run Φ) (o : P e) (k : ∀ x, P x → (f x).run Φ → X) : X := k e o hw
theorem l_oG {P : V → β → Grp → Prop} {G : V → Prop} {v : V} {e : β} {g : Grp} {f : β → W γ} (hw : (W.bind (W.ret e) f).run Φ) (z : Zs (g ++ R) H Ho) (o : P v e g) (k : ∀ x v g, Zs (g ++ R) H Ho → P v x g → (f x).run Φ → G v) : LetV G v := k e v g z o hw
end
/-- a method that stands at f -/
structure MCal (P : Program) (w : World) (K : PySem.W.Frag) (mg : Str → Option Value) (base : Heap) (CX : CXT) (q : Addr) (m : Str) (ps : List Str) (k : Nat) (sp : Sp) (f : Addr) (fd : FuncData) : Prop where
  ok : FnOk P w K mg base CX k f fd ps sp
  me : Meth K q m f
  b : Binds K fd ps []
/-- a class's __init__ -/
structure KCal (P : Program) (w : World) (K : PySem.W.Frag) (mg : Str → Option Value) (base : Heap) (CX : CXT) (q : Addr) (cn : Str) (ps : List Str) (k : Nat) (sp : Sp) (f : Addr) (fd : FuncData) : Prop where
  ok : FnOk P w K mg base CX k f fd ps sp
  mk_ : Mk K q f
  g : mg cn = some (.ref q)
  b : Binds K fd ps []
end Z
/-! # objects whose class has its own len, str, ==; isinstance; a dict's copy -/
namespace Z
open PySem PySem.Spec PyProof.Rows L2
section
variable {X : Cx} {pins : List (Addr × Obj)} {σ : L2.St} {H : Hp} {s : Shared} {C f : Addr} {fd : FuncData} {ps : List Str} {sp : Sp} {k : Nat}
theorem run_atS {A : Around} {E : XK} {Q : VK} {us : List Value} {vs : List V} (F : FnOk X.prog X.w X.K X.mg X.base CX0 k f fd ps sp) (hr : Room k A) (e0 : Env0 X.prog X.w X.K X.mg X.base A X.stack s H) (hb : Binds X.K fd ps []) (I : Inv X pins σ H s) (r : Vals vs us) (h : sp vs H Q E) :
    wpAny (model X.prog X.w) A (call (.ref f) us) (EP X pins σ Q) X.xe s := by
  have hl : us.length = ps.length := by rw [← r.length]; exact F.len _ _ _ _ h
  have b := hb s us I.kIn (by rw [List.append_nil]; exact hl)
  rw [List.append_nil] at b
  refine wpAny_call (codeAny_mono (F.run A X.stack s H ⟨us, []⟩ us vs Q E hr e0 b r h) fun r s' hq => ?_)
  cases r with
  | error e => exact pass0 pins σ H s e s' I hq
  | ok fl =>
    cases fl with
    | ret u => exact I.after hq
    | next => exact False.elim hq
    | brk => exact False.elim hq
    | cont => exact False.elim hq
def rLenO (C : Addr) (sp : Sp) : List V → Hp → VK → Prop := fun xs H Q => ∃ a dx fs, xs = [.ref a] ∧ H a = some (.ins C dx fs) ∧ sp [.ref a] H (fun z H' => ∃ n : Int, z = .int n ∧ 0 ≤ n ∧ n < 2 ^ 63 ∧ Q (.int n) H') E0
theorem call_lenO (hm : Meth X.K C "__len__" f) (F : FnOk X.prog X.w X.K X.mg X.base CX0 k f fd ps sp) (hr : Room (k + 1) X.A) (hb : Binds X.K fd ps []) : CallR X (.builtin "len") (rLenO C sp) := by
  intro pins s σ H xs us Q I r h
  obtain ⟨a, dx, fs, rfl, ha, q⟩ := h
  obtain ⟨u, rfl, ru⟩ := vals1 r
  cases (show u = Value.ref a from ru)
  obtain ⟨mA, J, _⟩ := ins_get I.hok ha
  obtain ⟨od, J, _⟩ := J.look
  obtain ⟨m, hF⟩ := I.fr
  refine PySem.W.len_K hF I.ok.mod.kin J hm.at_ hm.fn (wpAny_mono (run_atS (us := [.ref a]) (vs := [.ref a]) F hr.in1 I.env0.in1 hb I (.cons rfl .nil) q) (fun w s' z => ?_) fun _ _ x => x)
  obtain ⟨z', H', I', rz, n, en, n0, n1, qz⟩ := z
  subst en
  obtain ⟨t, e⟩ := (show ∃ t, w = Value.int n t from rz)
  cases e
  exact ⟨⟨n0, n1⟩, .int n, H', I'.tok _, ⟨_, rfl⟩, qz⟩
end
section
variable {K : PySem.W.Frag} {H Ho : Hp} {R : Grp} {Q : VK} {C q : Addr} {v w : V} {sp : Sp} {m : Str} {cn : Str} {ns : List Str} {α : Type} [Py α]
theorem y_lenO (k : MetK C "__len__" (fun x H => sp [x] H (fun z H' => ∃ n : Int, z = .int n ∧ 0 ≤ n ∧ n < 2 ^ 63 ∧ Q (.int n) H') E0) v H) : rLenO C sp [v] H Q := by
  obtain ⟨a, dx, fs, rfl, h, _, k⟩ := k
  exact ⟨a, dx, fs, rfl, h, k⟩
end
end Z
/-! # None, or a list of one's own -/
namespace Z
open PySem PySem.Spec PyProof.Rows L2
section
variable {K : PySem.W.Frag} {H Ho H' Ho' : Hp} {α β γ : Type} [Py α] [Py β] {Φ : γ → Prop} {R : Grp} {v w v0 v1 : V} {Q : VK} {p : Addr}
def OO (K : PySem.W.Frag) (Ho : Hp) (v : V) (o : Option (List α)) (g : Grp) : Prop := match o with
  | none => v = .non ∧ g = []
  | some xs => OL K Ho v xs g
theorem OO.mo {o : Option (List α)} {g : Grp} (h : OO K Ho v o g) (e : Same Ho Ho') : OO K Ho' v o g := by
  cases o with
  | none => exact h
  | some xs => exact OL.mo (show OL K Ho v xs g from h) e
theorem OO.non : OO K Ho .non (none : Option (List α)) [] := ⟨rfl, rfl⟩
theorem OO.some {xs : List α} {g : Grp} (h : OL K Ho v xs g) : OO K Ho v (some xs) g := h
/-- a name that is set by a loop's turn -/
def LateD (K : PySem.W.Frag) (Ho : Hp) (y : Option V) (o : Option β) : Prop := ∀ a, o = some a → ∃ v, y = some v ∧ Z.D K Ho v a
theorem LateD.mo {y : Option V} {o : Option β} (h : LateD K Ho y o) (e : Same Ho Ho') : LateD K Ho' y o := fun a ea => by
  obtain ⟨v, ev, d⟩ := h a ea
  exact ⟨v, ev, D.mo d e⟩
theorem LateD.none {y : Option V} : LateD K Ho y (none : Option β) := fun a e => by cases e
theorem LateD.some {b : β} (d : Z.D K Ho v b) : LateD K Ho (some v) (some b) := fun a e => by cases e; exact ⟨v, rfl, d⟩
end
end Z
/-! # a def with one default, called with all its arguments or with the last by its name -/
namespace L2
open PySem PySem.Spec PyProof.Rows
section
variable {P : Program} {w : World} {K : PySem.W.Frag} {mg : Str → Option Value} {base : Heap} {x qual : Str} {params : Arguments} {body : List Stmt} {scope : Scope} {dvs : List V} {kws : List (Str × V)} {f T : Addr} {fd : FuncData} {d : V} {a b : Str}
theorem FunD.ok0 {N ps : List Str} {k : Nat} {sp : Sp} (F : FunD K x qual params body scope dvs kws f fd) (S : FnScope N ps scope) (len : ∀ vs H Q E, sp vs H Q E → vs.length = ps.length)
    (hbody : ∀ (cdv : Value) (A : Around) (outer : List Env) (s : Shared) (H : Hp) (vs : List V) (Q : VK) (E : XK), Room k (A.deeper (envOfC qual scope s.heap.objs.size f cdv)) → sp vs H Q E →
      ∃ t, PSs (cxOf CX0 P w K mg base N qual scope f cdv A outer s H E).nox body t ∧ t { nx := fun _ H' => Q .non H', rt := Q } (start N vs) H) : FnOk P w K mg base CX0 (k + 1) f fd ps sp := by
  obtain ⟨oc, od, dV, kV, doc, pm, an, cdv, ct, osl, rfl, lk, hcd, _, _⟩ := F.ex
  refine fn_of lk hcd S len fun A outer s H vs Q E hr hsp => ?_
  obtain ⟨t, h, q⟩ := hbody cdv A outer s H vs Q E hr hsp
  exact ⟨t, h.nox, q⟩
theorem FunD.okX {N ps : List Str} {k : Nat} {sp : Sp} (F : FunD K x qual params body scope dvs kws f fd) (S : FnScope N ps scope) (len : ∀ vs H Q E, sp vs H Q E → vs.length = ps.length)
    (hbody : ∀ (cdv : Value) (A : Around) (outer : List Env) (s : Shared) (H : Hp) (vs : List V) (Q : VK) (E : XK), Room k (A.deeper (envOfC qual scope s.heap.objs.size f cdv)) → sp vs H Q E →
      ∃ t, PSs (cxOf (L2.CX P w) P w K mg base N qual scope f cdv A outer s H E) body t ∧ t { nx := fun _ H' => Q .non H', rt := Q } (start N vs) H) : FnOk P w K mg base (L2.CX P w) (k + 1) f fd ps sp := F.ok S len hbody
end
end L2
namespace Z
open PySem PySem.Spec PyProof.Rows L2
end Z
/-! # as Ydfl's calls by name, where the def may let errors out -/
namespace L2
open PySem PySem.Spec PyProof.Rows
end L2
namespace Z
open PySem PySem.Spec PyProof.Rows L2
end Z
/-! # all is lent up to a scalar answer; own lists of own things -/
namespace Z
open PySem PySem.Spec PyProof.Rows L2
section
variable {K : PySem.W.Frag} {H Ho H' Ho' : Hp} {rs rs' g R : Grp} {v w : V}
/-- all that there is stands for good, up to the answer of a call -/
theorem Zs.all (z : Zs rs H Ho) : Zs [] H H := ⟨Same.refl _, (fun r hr => nomatch hr), List.nodup_nil, (fun r hr => nomatch hr)⟩
theorem Zs.unlend (z : Zs rs H Ho) (e : Same H Ho') (z' : Zs [] H' Ho') : Zs rs H' Ho :=
  ⟨(z.le.trans e).trans z'.le, fun r hr => ⟨z'.le _ _ (e _ _ (z.rt r hr).1), (z.rt r hr).2⟩, z.nd, z.nt⟩
theorem Zs.unlendO (z : Zs rs H Ho) (e : Same H Ho') (z' : Zs (g ++ []) H' Ho') : Zs (g ++ rs) H' Ho := by
  rw [List.append_nil] at z'
  have nw : ∀ r ∈ g, H r.1 = none := fun r hr => by
    cases h : H r.1 with
    | none => rfl
    | some o =>
      have := e _ _ h
      rw [(z'.rt r hr).2] at this
      cases this
  refine ⟨(z.le.trans e).trans z'.le, fun r hr => ?_, ?_, fun r hr => ?_⟩
  · rcases List.mem_append.mp hr with h | h
    · exact ⟨(z'.rt r h).1, z.free (nw r h)⟩
    · exact ⟨z'.le _ _ (e _ _ (z.rt r h).1), (z.rt r h).2⟩
  · rw [List.map_append, List.nodup_append]
    refine ⟨z'.nd, z.nd, fun a ha b hb c => ?_⟩
    subst c
    obtain ⟨r, hr, rfl⟩ := List.mem_map.mp ha
    obtain ⟨r', hr', c⟩ := List.mem_map.mp hb
    have := (z.rt r' hr').1
    rw [c, nw r hr] at this
    cases this
  · rcases List.mem_append.mp hr with h | h
    · exact z'.nt r h
    · exact z.nt r h
theorem Zs.in_ (z : Zs rs H Ho) (m : ∀ r ∈ g, r ∈ rs) : ∀ r ∈ g, H r.1 = some r.2 := fun r h => (z.rt r (m r h)).1
end
/-! ### own things in general -/
abbrev OwnPred (β : Type) := PySem.W.Frag → Hp → V → β → Grp → Prop
class OwnD {β : Type} [Py β] (P : OwnPred β) : Prop where
  mo : ∀ {K : PySem.W.Frag} {Ho Ho2 : Hp} {v : V} {x : β} {g : Grp}, P K Ho v x g → Same Ho Ho2 → P K Ho2 v x g
  rd : ∀ {K : PySem.W.Frag} {Ho H : Hp} {v : V} {x : β} {g : Grp}, P K Ho v x g → Same Ho H → (∀ r ∈ g, H r.1 = some r.2) → Z.D K H v x
/-- what needs no heap -/
class Pur (α : Type) [Py α] : Prop where
  pu : ∀ {K : PySem.W.Frag} {H H' : Hp} {v : V} {x : α}, Z.D K H v x → Z.D K H' v x
instance : Pur Int := ⟨fun d => by rw [d_int d]; exact .int _⟩
instance : Pur Bool := ⟨fun d => by rw [d_bool d]; exact .bl _⟩
instance : Pur Str := ⟨fun d => by rw [d_str d]; exact .str _⟩
section
variable {K : PySem.W.Frag} {H Ho H' Ho' : Hp} {R : Grp} {v w : V} {α β γ : Type} [Py α] [Py β] {Φ : γ → Prop} {Q : VK}
instance : OwnD (fun K Ho v xs g => OL (α := α) K Ho v xs g) where
  mo := fun o e => OL.mo o e
  rd := fun o e m => by
    obtain ⟨p, vs, rfl, d, rfl⟩ := o
    exact .lst (SqL.of (m _ List.mem_cons_self)) (DL.mo d e)
theorem DL.pu [Pur α] : ∀ {vs : List V} {xs : List α}, DL K H vs xs → DL K H' vs xs
  | [], [], _ => .nil
  | [], _ :: _, h => by cases h
  | _ :: _, [], h => by cases h
  | v :: vs, x :: xs, h => by
    cases h with
    | cons h1 h2 => exact .cons (Pur.pu h1) (DL.pu h2)
theorem OL.pu [Pur α] {xs : List α} {g : Grp} (o : OL K Ho v xs g) : OL K Ho' v xs g := by
  obtain ⟨p, vs, rfl, d, rfl⟩ := o
  exact ⟨p, vs, rfl, d.pu, rfl⟩
/-! ### own lists of own things -/
inductive RowO {β : Type} (P : V → β → Grp → Prop) : List V → List β → List Grp → Prop
  | nil : RowO P [] [] []
  | cons {v : V} {x : β} {g : Grp} {vs : List V} {xs : List β} {gs : List Grp} (h : P v x g) (t : RowO P vs xs gs) : RowO P (v :: vs) (x :: xs) (g :: gs)
theorem RowO.imp {P P' : V → β → Grp → Prop} (h : ∀ v x g, P v x g → P' v x g) : ∀ {vs : List V} {xs : List β} {gs : List Grp}, RowO P vs xs gs → RowO P' vs xs gs
  | _, _, _, .nil => .nil
  | _, _, _, .cons a t => .cons (h _ _ _ a) (t.imp h)
theorem RowO.len {P : V → β → Grp → Prop} : ∀ {vs : List V} {xs : List β} {gs : List Grp}, RowO P vs xs gs → vs.length = xs.length ∧ gs.length = xs.length
  | _, _, _, .nil => ⟨rfl, rfl⟩
  | _, _, _, .cons a t => ⟨by simp [t.len.1], by simp [t.len.2]⟩
theorem RowO.get {P : V → β → Grp → Prop} : ∀ {vs : List V} {xs : List β} {gs : List Grp} {i : Nat} {x : β}, RowO P vs xs gs → xs[i]? = some x → ∃ v g, vs[i]? = some v ∧ gs[i]? = some g ∧ P v x g
  | _, _, _, i, _, .nil, e => by simp at e
  | _, _, _, 0, _, .cons a t, e => by cases e; exact ⟨_, _, rfl, rfl, a⟩
  | _, _, _, i + 1, _, .cons a t, e => t.get (i := i) (by simpa using e)
theorem RowO.set {P : V → β → Grp → Prop} : ∀ {vs : List V} {xs : List β} {gs : List Grp} {i : Nat} {v : V} {x : β} {g : Grp}, RowO P vs xs gs → vs[i]? = some v → P v x g → RowO P vs (xs.set i x) (gs.set i g)
  | _, _, _, i, _, _, _, .nil, e, _ => by simp at e
  | _, _, _, 0, _, _, _, .cons a t, e, p => by cases e; exact .cons p t
  | _, _, _, i + 1, _, _, _, .cons a t, e, p => .cons a (t.set (i := i) (by simpa using e) p)
theorem RowO.snoc {P : V → β → Grp → Prop} : ∀ {vs : List V} {xs : List β} {gs : List Grp} {v : V} {x : β} {g : Grp}, RowO P vs xs gs → P v x g → RowO P (vs ++ [v]) (xs ++ [x]) (gs ++ [g])
  | _, _, _, _, _, _, .nil, p => .cons p .nil
  | _, _, _, _, _, _, .cons a t, p => .cons a (t.snoc p)
def OLo (P : OwnPred β) : OwnPred (List β) := fun K Ho v xs g => ∃ p vs gs, v = .ref p ∧ RowO (P K Ho) vs xs gs ∧ g = (p, HO.lst vs) :: gs.flatten
theorem OLo.mo {P : OwnPred β} [OwnD P] {xs : List β} {g : Grp} (h : OLo P K Ho v xs g) (e : Same Ho Ho') : OLo P K Ho' v xs g := by
  obtain ⟨p, vs, gs, rfl, r, rfl⟩ := h
  exact ⟨p, vs, gs, rfl, r.imp fun v x g h => OwnD.mo h e, rfl⟩
theorem RowO.rd {P : OwnPred β} [OwnD P] (e : Same Ho H) : ∀ {vs : List V} {xs : List β} {gs : List Grp}, RowO (P K Ho) vs xs gs → (∀ r ∈ gs.flatten, H r.1 = some r.2) → DL K H vs xs
  | _, _, _, .nil, _ => .nil
  | _, _, _, .cons a t, m => .cons (OwnD.rd a e fun r h => m r (by rw [List.flatten_cons]; exact List.mem_append_left _ h)) (RowO.rd e t fun r h => m r (by rw [List.flatten_cons]; exact List.mem_append_right _ h))
instance {P : OwnPred β} [OwnD P] : OwnD (OLo P) where
  mo := fun o e => OLo.mo o e
  rd := fun o e m => by
    obtain ⟨p, vs, gs, rfl, r, rfl⟩ := o
    exact .lst (SqL.of (m _ List.mem_cons_self)) (r.rd e fun q h => m q (List.mem_cons_of_mem _ h))
theorem flat_set {gs : List Grp} {i : Nat} {g g' : Grp} (h : gs[i]? = some g) : (gs.set i g').flatten.Perm (g' ++ (gs.set i []).flatten) := by
  induction gs generalizing i with
  | nil => simp at h
  | cons a gs ih =>
    cases i with
    | zero => simp
    | succ i =>
      have := ih (i := i) (by simpa using h)
      simp only [List.set_cons_succ, List.flatten_cons]
      refine (this.append_left a).trans ?_
      rw [← List.append_assoc, ← List.append_assoc]
      exact List.perm_append_comm.append_right _
theorem flat_at {gs : List Grp} {i : Nat} {g : Grp} (h : gs[i]? = some g) : gs.flatten.Perm (g ++ (gs.set i []).flatten) := by
  have e : gs.set i g = gs := by
    apply List.ext_getElem?
    intro j
    rw [List.getElem?_set]
    split
    · rename_i c; subst c
      obtain ⟨hl, _⟩ := List.getElem?_eq_some_iff.mp h
      rw [if_pos hl, h]
    · rfl
  have := flat_set (g' := g) h
  rwa [e] at this
/-- an item of a list is another one -/
def setI {α : Type} (xs : List α) (i : Int) (x : α) : List α := match ixN xs.length i with
  | some j => xs.set j x
  | none => xs
/-- a list, one of whose items (i) is looked after elsewhere -/
def OLh (P : OwnPred β) (i : Int) (u : V) : OwnPred (List β) := fun K Ho v xs g => ∃ p vs gs j, v = .ref p ∧ RowO (P K Ho) vs xs gs ∧ ixN xs.length i = some j ∧ vs[j]? = some u ∧ g = (p, HO.lst vs) :: (gs.set j []).flatten
theorem OLh.mo {P : OwnPred β} [OwnD P] {i : Int} {u : V} {xs : List β} {g : Grp} (h : OLh P i u K Ho v xs g) (e : Same Ho Ho') : OLh P i u K Ho' v xs g := by
  obtain ⟨p, vs, gs, j, rfl, r, q⟩ := h
  exact ⟨p, vs, gs, j, rfl, r.imp fun v x g h => OwnD.mo h e, q⟩
/-- an item's value is known -/
def ElAt (R : Grp) (v : V) (i : Int) (u : V) : Prop := ∃ p vs, v = .ref p ∧ (p, HO.lst vs) ∈ R ∧ atI vs i = some u
theorem at_ix {α : Type} {xs : List α} {i : Int} {x : α} (h : atI xs i = some x) : ∃ j, ixN xs.length i = some j ∧ xs[j]? = some x := by
  unfold atI at h
  cases q : ixN xs.length i with
  | none => rw [q] at h; cases h
  | some j => rw [q] at h; exact ⟨j, rfl, h⟩
theorem ix_at {α : Type} {xs : List α} {i : Int} {j : Nat} (h : ixN xs.length i = some j) : atI xs i = xs[j]? := by
  unfold atI
  rw [h]; rfl
/-- an item is taken into one's own hands (pb: it goes back as it was) -/
theorem o_open {P : OwnPred β} {xs : List β} {i : Int} {g : Grp} {f : β → W γ} {X : Prop} (o : OLo P K Ho v xs g) (z : Zs (g ++ R) H Ho) (hw : (W.bind (W.opt (atI xs i)) f).run Φ)
    (k : ∀ x u gi gh, (∀ R H Ho, Zs (gi ++ (gh ++ R)) H Ho → Zs (g ++ R) H Ho) → Zs (gi ++ (gh ++ R)) H Ho → OLh P i u K Ho v xs gh → P K Ho u x gi → (f x).run Φ → X) : X := by
  obtain ⟨x, ex, hw⟩ := hw
  obtain ⟨p, vs, gs, rfl, r, rfl⟩ := o
  obtain ⟨j, ej, hx⟩ := at_ix ex
  obtain ⟨u, gi, hu, hg, pu⟩ := r.get hx
  have pm : ∀ R : Grp, ((p, HO.lst vs) :: (gs.flatten ++ R)).Perm (gi ++ ((p, HO.lst vs) :: ((gs.set j []).flatten ++ R))) := fun R => by
    refine List.Perm.trans ?_ List.perm_middle.symm
    refine List.Perm.cons _ ?_
    rw [← List.append_assoc]
    exact (flat_at hg).append_right _
  exact k x u gi ((p, HO.lst vs) :: (gs.set j []).flatten) (fun R H Ho z => z.perm (pm R).symm) (z.perm (pm R)) ⟨p, vs, gs, j, rfl, r, ej, hu, rfl⟩ pu hw
/-- the same, the item's value known -/
theorem o_openE {P : OwnPred β} {xs : List β} {i : Int} {g R' : Grp} {u : V} {f : β → W γ} {X : Prop} (o : OLo P K Ho v xs g) (z : Zs (g ++ R) H Ho) (el : ElAt R' v i u) (m : ∀ r ∈ R', r ∈ g ++ R) (hw : (W.bind (W.opt (atI xs i)) f).run Φ)
    (k : ∀ x gi gh, (∀ R H Ho, Zs (gi ++ (gh ++ R)) H Ho → Zs (g ++ R) H Ho) → Zs (gi ++ (gh ++ R)) H Ho → OLh P i u K Ho v xs gh → P K Ho u x gi → (f x).run Φ → X) : X := by
  obtain ⟨p', vs', e1, m', e2⟩ := el
  have hp := (z.rt _ (m _ m')).1
  refine o_open o z hw fun x w gi gh pb z' oh pw hw => ?_
  have : w = u := by
    obtain ⟨p2, vs2, gs2, j, e, r2, ej, hj, hg2⟩ := id oh
    have ee := e1.symm.trans e
    cases ee
    have h3 := (z'.rt (p', HO.lst vs2) (List.mem_append_right _ (List.mem_append_left _ (by rw [hg2]; exact List.mem_cons_self)))).1
    have : vs2 = vs' := by
      have := h3.symm.trans hp
      cases this
      rfl
    subst this
    rw [← r2.len.1] at ej
    rw [ix_at ej, hj] at e2
    cases e2
    rfl
  subst this
  exact k x gi gh pb z' oh pw hw
/-- the item goes back into the list -/
theorem o_fill {P : OwnPred β} {xs : List β} {i : Int} {u : V} {x : β} {gi gh : Grp} {X : Prop} (oh : OLh P i u K Ho v xs gh) (o : P K Ho u x gi) (z : Zs (gi ++ (gh ++ R)) H Ho)
    (k : ∀ g, Zs (g ++ R) H Ho → OLo P K Ho v (setI xs i x) g → X) : X := by
  obtain ⟨p, vs, gs, j, rfl, r, ej, hu, rfl⟩ := oh
  obtain ⟨g0, hg⟩ : ∃ g, gs[j]? = some g := by
    have h1 := (List.getElem?_eq_some_iff.mp hu).1
    have := r.len
    exact ⟨_, List.getElem?_eq_getElem (by omega)⟩
  refine k ((p, HO.lst vs) :: (gs.set j gi).flatten) (z.perm ?_) ⟨p, vs, gs.set j gi, rfl, ?_, rfl⟩
  · show (gi ++ ((p, HO.lst vs) :: ((gs.set j []).flatten ++ R))).Perm ((p, HO.lst vs) :: ((gs.set j gi).flatten ++ R))
    refine List.perm_middle.trans (List.Perm.cons _ ?_)
    rw [← List.append_assoc]
    exact ((flat_set hg).symm).append_right _
  · unfold setI
    rw [ej]
    exact r.set hu o
/-- borrowed -/
def BLo (P : OwnPred β) (K : PySem.W.Frag) (R : Grp) (Ho : Hp) (v : V) (xs : List β) : Prop := ∃ g, OLo P K Ho v xs g ∧ ∀ r ∈ g, r ∈ R
theorem BLo.mo {P : OwnPred β} [OwnD P] {xs : List β} (h : BLo P K R Ho v xs) (e : Same Ho Ho') : BLo P K R Ho' v xs := by
  obtain ⟨g, o, m⟩ := h
  exact ⟨g, o.mo e, m⟩
theorem BLo.sub {P : OwnPred β} {R2 : Grp} {xs : List β} (h : BLo P K R Ho v xs) (e : ∀ r ∈ R, r ∈ R2) : BLo P K R2 Ho v xs := by
  obtain ⟨g, o, m⟩ := h
  exact ⟨g, o, fun r hr => e r (m r hr)⟩
theorem BLo.rd {P : OwnPred β} [OwnD P] {xs : List β} (h : BLo P K R Ho v xs) (z : Zs R H Ho) : Z.D K H v xs := by
  obtain ⟨g, o, m⟩ := h
  exact OwnD.rd o z.le (z.in_ m)
theorem y_lenLo {P : OwnPred β} {xs : List β} (h : BLo P K R Ho v xs) (z : Zs R H Ho) (k : Q (.int (xs.length : Int)) H) : rLenZ K [v] H Q := by
  obtain ⟨g, ⟨p, vs, gs, rfl, r, rfl⟩, m⟩ := h
  refine ⟨_, _, rfl, .inl (SqL.of (z.rt _ (m _ List.mem_cons_self)).1), ?_⟩
  rw [r.len.1]
  exact k
theorem y_ixLo {P : OwnPred β} {xs : List β} {i : Int} {rs : Grp} {f : β → W γ} (h : BLo P K R Ho v xs) (m0 : ∀ r ∈ R, r ∈ rs) (z : Zs rs H Ho) (hw : (W.bind (W.opt (atI xs i)) f).run Φ) (k : ∀ x u, ElAt R v i u → (∃ g, P K Ho u x g ∧ ∀ r ∈ g, r ∈ R) → (f x).run Φ → Q u H) : rIxL K v (.int i) H Q := by
  obtain ⟨x, ex, hw⟩ := hw
  obtain ⟨g, ⟨p, vs, gs, rfl, r, rfl⟩, m⟩ := h
  obtain ⟨j, ej, hx⟩ := at_ix ex
  obtain ⟨u, gi, hu, hg, pu⟩ := r.get hx
  have hm := m _ List.mem_cons_self
  have hat : atI vs i = some u := by
    rw [← r.len.1] at ej
    rw [ix_at ej, hu]
  exact ⟨p, vs, i, u, rfl, rfl, SqL.of (z.rt _ (m0 _ hm)).1, hat, k x u ⟨p, vs, rfl, hm, hat⟩ ⟨gi, pu, fun q hq => m q (List.mem_cons_of_mem _ (List.mem_flatten.mpr ⟨gi, List.mem_of_getElem? hg, hq⟩))⟩ hw⟩
/-- a loop over such a list, each item changed in its turn -/
def mapL {β : Type} : List β → (β → W (Unit × β)) → W (List β)
  | [], _ => W.ret []
  | x :: xs, c => W.bind (c x) fun r => W.bind (mapL xs c) fun ys => W.ret (r.2 :: ys)
theorem set_mid {α : Type} : ∀ {xs ys : List α} {x y : α}, (xs ++ x :: ys).set xs.length y = xs ++ y :: ys
  | [], _, _, _ => rfl
  | a :: xs, ys, x, y => by simp [set_mid (xs := xs)]
theorem y_forM {P : OwnPred β} [OwnD P] {xs : List β} {c : β → W (Unit × β)} {f : List β → W γ} {g : Grp} {tg : TG} {tb u1 : TS} {D : Ends} {σ : L2.St} (o : OLo P K Ho v xs g) (z : Zs (g ++ R) H Ho) (hw : (W.bind (mapL xs c) f).run Φ) (I : L2.St → Prop) (i0 : I σ)
    (step : ∀ a u gi R' σ' H' Ho' (N : L2.St → Hp → Prop), Zs (gi ++ R') H' Ho' → P K Ho' u a gi → I σ' → (c a).run (fun r => ∀ σ'' gi' H'' Ho'', I σ'' → Same Ho' Ho'' → Zs (gi' ++ R') H'' Ho'' → P K Ho'' u r.2 gi' → N σ'' H'') → tg u σ' H' fun σ2 H2 => tb { D with nx := N, ct := N, bk := u1 D } σ2 H2)
    (done : ∀ xs' g' σ' H' Ho', Same Ho Ho' → Zs (g' ++ R) H' Ho' → OLo P K Ho' v xs' g' → I σ' → (f xs').run Φ → u1 D σ' H') : SrcL K (fun J H1 => ForG tg tb u1 D σ J H1) v H := by
  obtain ⟨p, vs, gs, rfl, r, rfl⟩ := o
  refine ⟨p, rfl, ⟨vs, SqL.of (z.rt _ (List.mem_append_left _ List.mem_cons_self)).1⟩, ?_⟩
  refine ⟨fun i m σ' H' => m = xs.length - i ∧ ∃ Ho' xs' ys gs', Same Ho Ho' ∧ xs'.length = i ∧ i + ys.length = xs.length ∧ RowO (P K Ho') vs (xs' ++ ys) gs' ∧ Zs (((p, HO.lst vs) :: gs'.flatten) ++ R) H' Ho' ∧ I σ' ∧ (W.bind (mapL ys c) fun zs => f (xs' ++ zs)).run Φ,
    ⟨xs.length, by simp, Ho, [], xs, gs, Same.refl _, rfl, by simp, r, z, i0, hw⟩, ?_⟩
  rintro i m σ' H' ⟨rfl, Ho', xs', ys, gs', e', l1, l2, r', z', hI, hw⟩
  have sq : SqL K H' p vs := SqL.of (z'.rt _ (List.mem_append_left _ List.mem_cons_self)).1
  cases ys with
  | nil =>
    refine .inl ⟨⟨vs, sq, ?_⟩, ?_⟩
    · rw [r'.len.1, List.append_nil, l1]; exact Nat.le_refl _
    · rw [List.append_nil] at r'
      have hw : (f (xs' ++ [])).run Φ := hw
      rw [List.append_nil] at hw
      exact done xs' _ σ' H' Ho' e' z' ⟨p, vs, gs', rfl, r', rfl⟩ hI hw
  | cons y ys =>
    refine .inr ?_
    have hx : (xs' ++ y :: ys)[i]? = some y := by rw [List.getElem?_append_right (by omega), l1]; simp
    obtain ⟨u, gi, hu, hg, pu⟩ := r'.get hx
    refine ⟨⟨vs, u, sq, hu⟩, fun σ'' H'' => ∃ Ho' xs' ys gs', Same Ho Ho' ∧ xs'.length = i + 1 ∧ i + 1 + ys.length = xs.length ∧ RowO (P K Ho') vs (xs' ++ ys) gs' ∧ Zs (((p, HO.lst vs) :: gs'.flatten) ++ R) H'' Ho' ∧ I σ'' ∧ (W.bind (mapL ys c) fun zs => f (xs' ++ zs)).run Φ,
      fun σ'' H'' hN => ⟨xs.length - (i + 1), by rw [List.length_cons] at l2; omega, rfl, hN⟩, fun x H'' yy => ?_⟩
    obtain ⟨rfl, yy⟩ := yy
    have ex : x = u := Option.some.inj ((yy _ sq).symm.trans hu)
    subst ex
    have z2 : Zs (gi ++ ((p, HO.lst vs) :: ((gs'.set i []).flatten ++ R))) H'' Ho' := z'.perm (by
      refine List.Perm.trans ?_ List.perm_middle.symm
      refine List.Perm.cons _ ?_
      rw [← List.append_assoc]
      exact (flat_at hg).append_right _)
    refine step y x gi _ σ' H'' Ho' _ z2 pu hI ?_
    refine W.mono _ _ _ (fun q hq σ3 gi' H3 Ho3 hI3 e3 z3 pq => ?_) (show (c y).run _ from hw)
    refine ⟨Ho3, xs' ++ [q.2], ys, gs'.set i gi', e'.trans e3, by simp [l1], by rw [List.length_cons] at l2; omega, ?_, ?_, hI3, ?_⟩
    · have r4 := (r'.imp (P' := P K Ho3) fun v x g h => OwnD.mo h e3).set hu pq
      rw [← l1, set_mid] at r4
      rw [List.append_assoc]
      rw [← l1]
      exact r4
    · refine z3.perm (List.perm_middle.trans (List.Perm.cons _ ?_))
      rw [← List.append_assoc]
      exact ((flat_set hg).symm).append_right _
    · have hq : (W.bind (mapL ys c) fun zs => f (xs' ++ q.2 :: zs)).run Φ := hq
      have : (fun zs => f (xs' ++ [q.2] ++ zs)) = fun zs => f (xs' ++ q.2 :: zs) := by funext zs; rw [List.append_assoc]; rfl
      rw [this]
      exact hq
end
/-! ### comprehensions that tell own things -/
/-- the turns of an iterator: what is known of each item -/
def TrnP {α : Type} (P : Hp → V → α → Prop) (r0 : Grp) (J : It) (xs : List α) (Ho2 : Hp) : Prop :=
  ∀ i rs' H' Ho', Same Ho2 Ho' → Zs rs' H' Ho' → (∀ r ∈ r0, r ∈ rs') → (∀ a, xs[i]? = some a → J.go i H' ∧ ∀ x H'', J.yld i H' x H'' → ∃ Ho'', Same Ho' Ho'' ∧ (∀ rs, Zs rs H' Ho' → Zs rs H'' Ho'') ∧ P Ho'' x a) ∧ (xs.length ≤ i → J.stop i H')
section
variable {K : PySem.W.Frag} {H Ho H' Ho' : Hp} {R r0 rs : Grp} {v w : V} {α β γ : Type} [Py β] {Φ : γ → Prop} {Q : VK} {σ : L2.St} {g : TG} {tt : TT} {te : TE} {vs : List Nat}
theorem k_srcB {P : OwnPred α} [Py α] [OwnD P] {RI : It → Hp → Prop} {xs : List α} (h : BLo P K r0 Ho v xs) (m : ∀ r ∈ r0, r ∈ rs) (z : Zs rs H Ho) (k : ∀ J, TrnP (fun Ho x a => ∃ g, P K Ho x a g ∧ ∀ r ∈ g, r ∈ r0) r0 J xs Ho → RI J H) : SrcL K RI v H := by
  obtain ⟨g, ⟨p, vs, gs, rfl, r, rfl⟩, m1⟩ := h
  have hm := m1 _ List.mem_cons_self
  refine ⟨p, rfl, ⟨vs, SqL.of (z.rt _ (m _ hm)).1⟩, k _ ?_⟩
  intro i rs' H' Ho' e z' sub
  have sq : SqL K H' p vs := SqL.of (z'.rt _ (sub _ hm)).1
  refine ⟨fun a ha => ?_, fun hl => ⟨vs, sq, by rw [r.len.1]; exact hl⟩⟩
  obtain ⟨u, gi, hu, hg, pu⟩ := r.get ha
  refine ⟨⟨vs, u, sq, hu⟩, fun x H'' y => ?_⟩
  obtain ⟨rfl, y⟩ := y
  have ex : x = u := Option.some.inj ((y _ sq).symm.trans hu)
  subst ex
  refine ⟨Ho', Same.refl _, fun _ z => z, gi, OwnD.mo pu e, fun q hq => m1 q (List.mem_cons_of_mem _ ?_)⟩
  exact List.mem_flatten.mpr ⟨gi, List.mem_of_getElem? hg, hq⟩
theorem y_lcO {P : OwnPred β} [OwnD P] {PI : Hp → V → α → Prop} {J : It} {xs : List α} {cf : α → W β} {f : List β → W γ} (z : Zs rs H Ho) (hr : ∀ r ∈ r0, r ∈ rs) (T : TrnP PI r0 J xs Ho) (hw : (W.bind (compG xs (fun _ => W.ret true) cf) f).run Φ)
    (hx : ∀ (r : Grp) a x H' Ho' (N : VK) (N' : Hp → Prop), Same Ho Ho' → Zs (r ++ rs) H' Ho' → PI Ho' x a →
      (cf a).run (fun y => ∀ w gi H'' Ho'', Same Ho' Ho'' → Zs (gi ++ (r ++ rs)) H'' Ho'' → P K Ho'' w y gi → N w H'') →
      g x (wipe σ vs) H' fun σ2 H2 => wipe σ2 vs = wipe σ vs ∧ tt σ2 H2 fun b H3 => if b = true then te σ2 H3 N else N' H3)
    (k : ∀ ys u gn H' Ho', Same Ho Ho' → (f ys).run Φ → Zs (gn ++ rs) H' Ho' → OLo P K Ho' u ys gn → Q u H') : LcG g tt te vs σ Q J H := by
  intro Dn hD
  obtain ⟨hsz, hw⟩ := hw
  refine ⟨fun i m H => m = xs.length - i ∧ i ≤ xs.length ∧ ∃ (Ho' : Hp) (acc : List β) (acs : List V) (gs : List Grp), Same Ho Ho' ∧ Zs (((Dn, HO.lst acs) :: gs.flatten) ++ rs) H Ho' ∧ RowO (P K Ho') acs acc gs ∧ acs.length ≤ i ∧ (comp (xs.drop i) acc (fun _ => W.ret true) cf).run fun ys => (f ys).run Φ,
    ⟨xs.length, by simp, Nat.zero_le _, Ho, [], [], [], Same.refl _, z.root hD, .nil, Nat.le_refl _, hw⟩, ?_⟩
  rintro i m H ⟨rfl, hi, Ho', acc, acs, gs, e', z', da, la, hw⟩
  have tr := T i _ H Ho' e' z' fun r hrr => List.mem_append_right _ (hr r hrr)
  by_cases hlt : i < xs.length
  · refine .inr ?_
    have hxi := List.getElem?_eq_getElem hlt
    obtain ⟨go, yl⟩ := tr.1 _ hxi
    refine ⟨go, fun H' => ∃ (Ho' : Hp) (acc : List β) (acs : List V) (gs : List Grp), Same Ho Ho' ∧ Zs (((Dn, HO.lst acs) :: gs.flatten) ++ rs) H' Ho' ∧ RowO (P K Ho') acs acc gs ∧ acs.length ≤ i + 1 ∧ (comp (xs.drop (i + 1)) acc (fun _ => W.ret true) cf).run fun ys => (f ys).run Φ,
      fun H' hN => ⟨xs.length - (i + 1), by omega, rfl, hlt, hN⟩, fun x H' y => ?_⟩
    obtain ⟨Ho2, e2, z2, dx⟩ := yl x H' y
    rw [drop_cons hxi] at hw
    have hw : (cf xs[i]).run fun y => (comp (xs.drop (i + 1)) (acc ++ [y]) (fun _ => W.ret true) cf).run fun ys => (f ys).run Φ := hw.1 rfl
    refine hx ((Dn, HO.lst acs) :: gs.flatten) _ x H' Ho2 _ _ (e'.trans e2) (z2 _ z') dx ?_
    refine W.mono _ _ _ (fun y hy w gi H'' Ho'' e3 z3 dw => ?_) hw
    have z4 : Zs ((Dn, HO.lst acs) :: (gi ++ (gs.flatten ++ rs))) H'' Ho'' := z3.perm List.perm_middle
    refine ⟨acs, z4.head, by omega, Ho'', acc ++ [y], acs ++ [w], gs ++ [gi], (e'.trans e2).trans e3, ?_, (da.imp fun v x g h => OwnD.mo h (e2.trans e3)).snoc dw, ?_, hy⟩
    · refine z4.put.perm (List.Perm.cons _ ?_)
      rw [List.flatten_append, List.flatten_singleton, ← List.append_assoc]
      exact List.perm_append_comm.append_right _
    · rw [List.length_append]
      exact Nat.succ_le_succ la
  · have e : i = xs.length := by omega
    subst e
    refine .inl ⟨tr.2 (Nat.le_refl _), ?_⟩
    rw [List.drop_length] at hw
    exact k acc (.ref Dn) _ H Ho' e' hw z' ⟨Dn, acs, gs, rfl, da, rfl⟩
end
/-! ### one of several lists, picked -/
inductive LVs {α : Type} [Py α] (K : PySem.W.Frag) (R : Grp) (Ho : Hp) : List V → List (List α) → Prop
  | nil : LVs K R Ho [] []
  | cons {v : V} {x : List α} {vs : List V} {xs : List (List α)} (h : LV K R Ho v x) (t : LVs K R Ho vs xs) : LVs K R Ho (v :: vs) (x :: xs)
section
variable {K : PySem.W.Frag} {H Ho Ho' : Hp} {R rs : Grp} {v w : V} {α γ : Type} [Py α] {Φ : γ → Prop} {Q : VK} {vs : List V} {xss : List (List α)}
theorem LVs.get : ∀ {vs : List V} {xss : List (List α)} {i : Nat} {x : List α}, LVs K R Ho vs xss → xss[i]? = some x → ∃ v, vs[i]? = some v ∧ LV K R Ho v x
  | _, _, i, _, .nil, e => by simp at e
  | _, _, 0, _, .cons a t, e => by cases e; exact ⟨_, rfl, a⟩
  | _, _, i + 1, _, .cons a t, e => t.get (i := i) (by simpa using e)
theorem LVs.len : ∀ {vs : List V} {xss : List (List α)}, LVs K R Ho vs xss → vs.length = xss.length
  | _, _, .nil => rfl
  | _, _, .cons a t => by simp [t.len]
theorem LVs.mo (e : Same Ho Ho') : ∀ {vs : List V} {xss : List (List α)}, LVs K R Ho vs xss → LVs K R Ho' vs xss
  | _, _, .nil => .nil
  | _, _, .cons a t => .cons (a.mo e) (t.mo e)
end
/-! ### None, told of data of any kind -/
def pyNone : PyData → Bool
  | .none => true
  | _ => false
theorem dec_nonP {K : PySem.W.Frag} {Ho : Hp} {v : V} {x : PyData} (d : Z.D K Ho v x) : decide (v = V.non) = pyNone x := by
  have d : Dq K Ho v x := d
  cases d <;> first | rfl | exact decide_eq_false (fun e => by cases e)
/-! ### methods of instances that stand for good; lists whose places are fields -/
section
variable {K : PySem.W.Frag} {H Ho : Hp} {rs R : Grp} {v w : V} {Q : VK} {QH : Hp → Prop} {q a : Addr} {cn m : Str} {ns : List Str} {G : V → Hp → Prop} {vs : List V} {i : Int} {j : Nat}
theorem zop_inT {X : Cx} (hK : X.K = K) : OpR X (compareOp .In) (rIn K false) := hK ▸ op_in_seq
theorem inV_strs {a : Str} : ∀ {ss : List Str}, inV (.str a) (ss.map V.str) = decide (a ∈ ss)
  | [] => by simp [inV]
  | s :: ss => by
    have ih := inV_strs (a := a) (ss := ss)
    unfold inV at ih ⊢
    rw [List.map_cons, List.any_cons, ih]
    have e : eqV (.str s) (.str a) = decide (s = a) := rfl
    rw [e]
    by_cases c : s = a
    · subst c; simp
    · have : a ≠ s := fun e => c e.symm
      simp [c, this]
theorem flat_strs : ∀ {ss : List Str}, (ss.map V.str).all flatV = true
  | [] => rfl
  | s :: ss => by rw [List.map_cons, List.all_cons, flat_strs]; rfl
theorem dq_strs {H : Hp} : ∀ {vs : List V} {ss : List Str}, DqAll K H vs (ss.map PyData.str) → vs = ss.map V.str
  | [], [], _ => rfl
  | [], _ :: _, h => by cases h
  | _ :: _, [], h => by cases h
  | v :: vs, s :: ss, h => by
    cases h with
    | cons h1 h2 =>
      cases h1
      rw [dq_strs h2]; rfl
theorem y_inT {α : Type} [Py α] {x : α} {a : Str} {ss : List Str} (d : Z.D K Ho w x) (hx : toPy x = .tuple (ss.map .str)) (z : Zs rs H Ho) (k : Q (.bl (decide (a ∈ ss))) H) : rIn K false (.str a) w H Q := by
  have d : Dq K Ho w (toPy x) := d
  rw [hx] at d
  cases d with
  | tup hs ha =>
    rw [dq_strs ha] at hs
    refine ⟨_, _, rfl, .inr (SqT.of (z.le _ _ hs)), rfl, flat_strs, ?_⟩
    rw [if_neg Bool.false_ne_true, inV_strs]
    exact k
/-! self.f += n -/
def FAugK (K : PySem.W.Frag) (tv : TE) (rd : V → V → Hp → VK → Prop) (f : Str) (N : Hp → Prop) (σ : L2.St) (x : V) (H1 : Hp) : Prop := ∃ a C dx fs v, x = .ref a ∧ H1 a = some (.ins C dx fs) ∧ Cls K C ∧ NoAttr K C f ∧ fs.lookup f = some v ∧
  tv σ H1 fun y H2 => rd v y H2 fun z H3 => ∃ dx' fs', H3 a = some (.ins C dx' fs') ∧ fs'.length < 1000 ∧ N (upd H3 a (.ins C dx' (putF f z fs')))
theorem zps_fldaug {X : Cx} {ta tv : TE} {op : Operator} {rd : V → V → Hp → VK → Prop} {o value : Expr} {f : Str} {pos tpos : Pos} (hK : X.K = K) (ha : PE X o ta) (hv : PE X value tv) (hop : InOp X op rd) : PS X (.AugAssign (.Attribute o f tpos) op value pos) (sFldAug K ta tv rd f) := hK ▸ ps_fldaug ha hv hop
theorem y_fldaug {ta tv : TE} {rd : V → V → Hp → VK → Prop} {f : Str} {u : TS} {D : Ends} {σ : L2.St} (k : ta σ H fun x H1 => FAugK K tv rd f (fun H' => u D σ H') σ x H1) : tSeq (sFldAug K ta tv rd f) u D σ H := k
theorem o_faug {σ : L2.St} {N : Hp → Prop} {f : Str} {dx : Addr} {n m : Int} (c : CF K q cn ns) (z : Zs ([(a, HO.ins q dx (ns.zip vs))] ++ R) H Ho) (hn : ns[j]? = some f) (hv : vs[j]? = some (.int n)) (k : ∀ H', Zs ([(a, HO.ins q dx (ns.zip (vs.set j (.int (n + m)))))] ++ R) H' Ho → N H') :
    FAugK K (tC (.int m)) rAdd f N σ (.ref a) H := by
  have hf := List.mem_of_getElem? hn
  refine ⟨a, q, dx, _, .int n, rfl, Zs.head z, c.cl, c.na f hf, lk_zip c.nd hn hv, ?_⟩
  refine ⟨n, m, rfl, rfl, dx, _, Zs.head z, len_zip_few c, ?_⟩
  rw [put_zip c.nd hn (List.getElem?_eq_some_iff.mp hv).1]
  exact k _ (Zs.put z)
theorem l_any2 {G : V → Prop} (k : G v) : LetV G v := k
/-- text.index(sign) -/
def sIdx (a b : Str) : Option Int := match Builtin.Str.occurrences a b 0 a.length 1 with
  | i :: _ => some (i : Int)
  | [] => none
def rSIdx : V → List V → Hp → VK → Prop := fun x xs H Q => ∃ a b i rest, x = .str a ∧ xs = [.str b] ∧ Builtin.Str.occurrences a b 0 a.length 1 = i :: rest ∧ Q (.int (i : Nat)) H
theorem zmt_sindex {X : Cx} : MtR X "str.index" rSIdx := mt_sindex
theorem y_sindex {a b : Str} {γ : Type} {f : Int → W γ} {Φ : γ → Prop} (hw : (W.bind (W.opt (sIdx a b)) f).run Φ) (k : ∀ t, (f t).run Φ → Q (.int t) H) : rSIdx (.str a) [.str b] H Q := by
  obtain ⟨t, e, hw⟩ := hw
  unfold sIdx at e
  split at e
  · rename_i i rest h
    cases e
    exact ⟨a, b, i, rest, rfl, rfl, h, k _ hw⟩
  · cases e
end
end Z
/-! # classes whose __init__ has a default (None); zip of data of any kind -/
namespace L2
open PySem PySem.Spec PyProof.Rows
section
variable {P : Program} {w : World} {K : PySem.W.Frag} {mg : Str → Option Value} {base : Heap} {x qual : Str} {params : Arguments} {body : List Stmt} {scope : Scope} {dvs : List V} {kws : List (Str × V)} {f T : Addr} {fd : FuncData} {d : V} {a b c : Str}
theorem fund_mkN {st : Stmt} {oc : Value} {od an : Option Addr} {osl : Array (Option Value)} {kV doc pm cdv ct tc : Value} {td : Option Addr} {tn : Nat} {tsl : Array (Option Value)}
    (l : K.lookup f = some ⟨oc, od, .func (PySem.W.fnOf x qual (defArgs st) (defBody st) (defScope st) (.ref T) kV doc pm an cdv ct), osl⟩)
    (c : PySem.W.codeIn K cdv qual = true) (k : PySem.W.keepIn K (.ref f) = true) (t : K.lookup T = some ⟨tc, td, .seq #[.none] tn, tsl⟩) : FunD K x qual (defArgs st) (defBody st) (defScope st) [V.non] [] f (PySem.W.fnOf x qual (defArgs st) (defBody st) (defScope st) (.ref T) kV doc pm an cdv ct) :=
  ⟨⟨oc, od, _, kV, doc, pm, an, cdv, ct, osl, rfl, l, c, .inr ⟨by simp, T, _, [.none], tn, rfl, t, rfl, .cons rfl .nil⟩, .inl rfl⟩, k⟩
theorem FunD.posN {ps : List Str} (n : Nat) (hn : ps.length = n) (F : FunD K x qual params body scope [d] [] f fd)
    (h : ∀ (T : Addr) (kV doc pm : Value) (an : Option Addr) (cdv ct : Value) (us its : List Value), us.length = n → its.length = 1 →
      ∃ k, bindArgs (PySem.W.fnOf x qual params body scope (.ref T) kV doc pm an cdv ct) ⟨us, []⟩ = seqItems? (.ref T) >>= k ∧ k (some its.toArray) = pure (ps.zip (us ++ its.drop 1))) : Binds K fd ps [] := by
  obtain ⟨ds, r, hb⟩ := F.binds1 (ps := ps) n 1 (by simp) (by simp [hn]) h
  cases r
  exact hb
theorem FunD.dflN {ps : List Str} (n : Nat) (hn : ps.length = n + 1) (F : FunD K x qual params body scope [V.non] [] f fd)
    (h : ∀ (T : Addr) (kV doc pm : Value) (an : Option Addr) (cdv ct : Value) (us its : List Value), us.length = n → its.length = 1 →
      ∃ k, bindArgs (PySem.W.fnOf x qual params body scope (.ref T) kV doc pm an cdv ct) ⟨us, []⟩ = seqItems? (.ref T) >>= k ∧ k (some its.toArray) = pure (ps.zip (us ++ its.drop 0))) : Binds K fd ps [Value.none] := by
  obtain ⟨ds, r, hb⟩ := F.binds1 (ps := ps) n 0 (by simp) (by simp [hn]) h
  have : ds = [Value.none] := by
    cases r with
    | cons h t =>
      cases t
      cases h
      rfl
  rw [this] at hb
  exact hb
theorem FunD.kwN {ps : List Str} {b : Str} (n : Nat) (F : FunD K x qual params body scope [d] [] f fd)
    (h : ∀ (T : Addr) (kV doc pm : Value) (an : Option Addr) (cdv ct : Value) (us its ws : List Value), us.length = n → its.length = 1 → ws.length = 1 →
      ∃ k, bindArgs (PySem.W.fnOf x qual params body scope (.ref T) kV doc pm an cdv ct) ⟨us, [b].zip ws⟩ = seqItems? (.ref T) >>= k ∧ k (some its.toArray) = pure (ps.zip (us ++ ws))) :
    KBn K fd ps n [b] (fun us ws => us ++ ws) (fun vs zs => vs ++ zs) := by
  obtain ⟨oc, od, dV, kV, doc, pm, an, cdv, ct, osl, rfl, lk, hcd, hD, hK⟩ := F.ex
  rcases hD with ⟨e, _⟩ | ⟨_, T, o, its, m, rfl, lT, oT, rT⟩
  · cases e
  · refine ⟨fun s us ws X l1 l2 => ?_, fun r1 r2 => r1.append r2⟩
    obtain ⟨k, e1, e2⟩ := h T kV doc pm an cdv ct us its ws l1 rT.length.symm l2
    refine BindsTo.of_looks fun M => ?_
    rw [e1]
    exact looks_items X lT oT (.of_pure e2)
end
end L2
namespace Z
open PySem PySem.Spec PyProof.Rows L2
def tMakeSd (C : Addr) (sp : Sp) (dvs : List V) (E : L2.St → XK) (t : TA) : TE := fun σ H Q => t σ H fun vs H1 => MkK C (fun x H2 => sp (x :: (vs ++ dvs)) H2 (fun v H3 => v = .non ∧ Q x H3) (E σ)) H1
section
variable {X : Cx} {CX : CXT} {k n : Nat} {f C : Addr} {fd : FuncData} {ps ks : List Str} {sp : Sp} {E : L2.St → XK} {x m : Str} {p pos apos : Pos} {e o : Expr} {es : List Expr} {kws : List Keyword} {ta : TE} {t tk : TA} {ds : List Value} {dvs : List V}
theorem run_makeSd {pins : List (Addr × Obj)} {σ : L2.St} {H : Hp} {s : Shared} {Q : VK} {us : List Value} {vs : List V} (M : Mk X.K C f) (F : FnOk X.prog X.w X.K X.mg X.base CX k f fd ps sp) (hr : Room (k + 1) X.A) (hb : Binds X.K fd ps ds) (hd : Vals dvs ds)
    (hx : PassesAt CX X σ (E σ)) (I : Inv X pins σ H s) (r : Vals vs us) (h : MkK C (fun x H2 => sp (x :: (vs ++ dvs)) H2 (fun v H3 => v = .non ∧ Q x H3) (E σ)) H) :
    wpAny (model X.prog X.w) X.A (call (.ref C) us) (EP X pins σ Q) X.xe s := by
  have hq := h (s.heap.objs.size + 1) s.heap.objs.size (I.hok.fresh (Nat.le_succ _)) (I.hok.fresh (Nat.le_refl _)) (Nat.ne_of_lt (Nat.lt_succ_self _))
  have I2 := Inv.made (C := C) I
  have r2 : Vals (V.ref (s.heap.objs.size + 1) :: (vs ++ dvs)) (Value.ref (s.heap.objs.size + 1) :: us ++ ds) := .cons rfl (r.append hd)
  have hl : (Value.ref (s.heap.objs.size + 1) :: us ++ ds).length = ps.length := by
    have e := r2.length
    rw [F.len _ _ _ _ hq] at e
    exact e.symm
  have hb' := hb _ (Value.ref (s.heap.objs.size + 1) :: us) I2.kIn hl
  refine wpAny_call (make_map (f := f) I.kIn M.makes M.init (beq_iff_eq.mp M.fn) (codeAny_mono (F.run _ X.stack _ _ ⟨Value.ref (s.heap.objs.size + 1) :: us, []⟩ (Value.ref (s.heap.objs.size + 1) :: us ++ ds) _ _ (E σ) (hr.make C us [])
    (I2.env0.make C us []) hb' r2 hq) fun r s' hq' => ?_))
  cases r with
  | error e => exact hx pins _ _ e s' I2 hq'
  | ok fl =>
    cases fl with
    | ret u =>
      obtain ⟨v, H', I3, rv, ev, q3⟩ := I2.after hq'
      subst ev
      exact ⟨rv, ⟨V.ref (s.heap.objs.size + 1), H', I3, rfl, q3⟩⟩
    | next => exact False.elim hq'
    | brk => exact False.elim hq'
    | cont => exact False.elim hq'
theorem pe_makeSd (M : Mk X.K C f) (F : FnOk X.prog X.w X.K X.mg X.base CX k f fd ps sp) (hr : Room (k + 1) X.A) (hg : Gl X x) (hm : X.mg x = some (.ref C)) (hb : Binds X.K fd ps ds) (hd : Vals dvs ds) (hx : ∀ σ, PassesAt CX X σ (E σ))
    (ha : PA X (e :: es) t) (hdb : (x == ("__debug__" : Str)) = false := by decide) (he : starEach (e :: es) X.env = (false, eval e X.env) :: starEach es X.env := by rfl) (hpl : (backTo pos (starEach es X.env)).any (·.1) = false := by rfl) :
    PE X (.Call (.Name x p) (e :: es) [] pos) (tMakeSd C sp dvs E t) := by
  refine ⟨fun pins s σ H Q I h => ?_⟩
  refine wpAny_Call_Name_kw (ld_glob I hg hm ?_ hdb)
  refine PySem.W.callWith_K (h₀ := X.base) I.ok.mod.kin M.kp (thn (ha.run pos pins s σ H _ I h) fun us s1 ⟨vs, H1, I1, r, q⟩ => ⟨I1.kIn, ?_⟩) he hpl
  exact run_makeSd M F hr hb hd (hx σ) I1 r q
end
section
variable {K : PySem.W.Frag} {H Ho : Hp} {rs : Grp} {v u : V} {Q : VK} {σ : L2.St} {C : Addr} {sp : Sp} {E : L2.St → XK} {t tk ts : TA} {dvs : List V} {n m : Nat} {R : It → Hp → Prop}
theorem y_makeD (k : t σ H fun vs H1 => MkK C (fun x H2 => sp (x :: (vs ++ dvs)) H2 (fun v H3 => v = .non ∧ Q x H3) (E σ)) H1) : tMakeSd C sp dvs E t σ H Q := k
/-! zip of two lists or two tuples of any kind -/
def pyZip : PyData → PyData → Option (List (PyData × PyData))
  | .list xs, .list ys => some (xs.zip ys)
  | .tuple xs, .tuple ys => some (xs.zip ys)
  | _, _ => none
def SrcZA (K : PySem.W.Frag) (R : It → Hp → Prop) (vs : List V) (H : Hp) : Prop := ∃ a b xs ys, vs = [.ref a, .ref b] ∧ ((SqL K H a xs ∧ SqL K H b ys ∧ R (Itz K a b) H) ∨ (SqT K H a xs ∧ SqT K H b ys ∧ R (RZ.ItzT K a b) H))
theorem k_iZipA (k : ts σ H fun vs H1 => SrcZA K R vs H1) : RZ.iZipA K ts σ H R := k
theorem zpi_zipA {X : Cx} {e e2 : Expr} {ta : TA} {p pos tpos : Pos} {elts : List Expr} {kk : Nat} (hK : X.K = K) (hg : Gl X "zip") (hm : X.mg "zip" = none) (ha : PA X [e, e2] ta)
    (hs : starEach [e, e2] X.env = (false, eval e X.env) :: starEach [e2] X.env := by rfl) (hpl : (backTo pos (starEach [e2] X.env)).any (·.1) = false := by rfl) :
    PI X (.Tuple elts kk tpos) (.Call (.Name "zip" p) [e, e2] [] pos) (RZ.iZipA K ta) := hK ▸ RZ.pi_zipA hg hm ha hs hpl
theorem trn_zipT {a b : Addr} {xs ys : List V} {ds es : List PyData} (ha : Ho a = some (.tup xs)) (hb : Ho b = some (.tup ys)) (da : DqAll K Ho xs ds) (db : DqAll K Ho ys es) : Trn K [] (RZ.ItzT K a b) (ds.zip es) Ho := by
  intro i rs' H' Ho' e z sub
  have sa : SqT K H' a xs := SqT.of (z.le _ _ (e _ _ ha))
  have sb : SqT K H' b ys := SqT.of (z.le _ _ (e _ _ hb))
  refine ⟨fun p hp => ?_, fun hl => ⟨xs, ys, sa, sb, ?_⟩⟩
  · obtain ⟨hx, hy⟩ := List.getElem?_zip_eq_some.mp hp
    obtain ⟨x, ex, dx⟩ := dpAll_get da hx
    obtain ⟨y, ey, dy⟩ := dpAll_get db hy
    refine ⟨⟨xs, ys, x, y, sa, sb, ex, ey⟩, fun t H'' yy => ?_⟩
    obtain ⟨T, x', y', rfl, hT, rfl, qx, qy⟩ := yy
    have e1 : x' = x := Option.some.inj ((qx _ sa).symm.trans ex)
    have e2 : y' = y := Option.some.inj ((qy _ sb).symm.trans ey)
    subst e1 e2
    have e3 : Same Ho' (upd Ho' T (.tup [x', y'])) := Same.new (z.free hT)
    exact ⟨_, e3, fun _ z => z.alloc hT, .tup upd_same (.cons (dp_mono e3 _ _ (dp_mono e _ _ dx)) (.cons (dp_mono e3 _ _ (dp_mono e _ _ dy)) .nil))⟩
  · rw [List.length_zip] at hl
    rw [dpAll_len da, dpAll_len db]
    omega
theorem py_list {xs : List PyData} (d : Z.D K Ho v (PyData.list xs)) : Z.D K Ho v xs := by
  have e : toPy xs = PyData.list xs := by
    show PyData.list (xs.map id) = _
    rw [List.map_id]
  show Dq K Ho v (toPy xs)
  rw [e]
  exact d
theorem k_srcZA {x y : PyData} {γ : Type} {f : List (PyData × PyData) → W γ} {Φ : γ → Prop} (d : Z.D K Ho v x) (d' : Z.D K Ho u y) (z : Zs rs H Ho) (hw : (W.bind (W.opt (pyZip x y)) f).run Φ) (k : ∀ J ps, Trn K [] J ps Ho → (f ps).run Φ → R J H) : SrcZA K R [v, u] H := by
  obtain ⟨ps, e, hw⟩ := hw
  unfold pyZip at e
  split at e
  · rename_i xs ys
    cases e
    have h1 : LV K [] Ho v xs := LV.of (py_list d)
    have h2 : LV K [] Ho u ys := LV.of (py_list d')
    obtain ⟨a, vs, rfl, d1, s1⟩ := id h1
    obtain ⟨b, us, rfl, d2, s2⟩ := id h2
    exact ⟨a, b, vs, us, rfl, .inl ⟨src_stay s1 (Same.refl _) z (fun r h => nomatch h), src_stay s2 (Same.refl _) z (fun r h => nomatch h), k _ _ (trn_zip h1 rfl h2 rfl) hw⟩⟩
  · rename_i xs ys
    cases e
    have d : Dq K Ho v (.tuple xs) := d
    have d' : Dq K Ho u (.tuple ys) := d'
    cases d with
    | tup ha da =>
      cases d' with
      | tup hb db =>
        exact ⟨_, _, _, _, rfl, .inr ⟨SqT.of (z.le _ _ ha), SqT.of (z.le _ _ hb), k _ _ (trn_zipT ha hb da db) hw⟩⟩
  · cases e
end
end Z
/-! # an error that is caught and kept: the rest of the block knows it -/
namespace L2
open PySem PySem.Spec PyProof.Rows
section
variable {X : Cx} {pins : List (Addr × Obj)} {σ : St} {H : Hp} {s : Shared}
theorem Inv.keepS {a : Addr} {pn : List (Addr × Obj)} {pn' : List (Addr × Obj)} (I : Inv (X.suite a pn) pn' σ H s) (ok : X.Ok) : Inv (X.tr pn X.xe) pn' σ H s :=
  ⟨ok.toTry _ _, I.os, I.bare, I.base, I.loc, I.cell, I.free, I.freeC, I.pin, I.hok, I.len⟩
theorem Inv.unkeep {q : Addr × Obj} {pn' : List (Addr × Obj)} (I : Inv (X.tr (q :: (X.pn ++ pins)) X.xe) pn' σ H s) (ok : X.Ok) : Inv X pins σ H s :=
  ⟨ok, I.os, I.bare, I.base, I.loc, I.cell, I.free, I.freeC, fun p hp => I.pin p (List.mem_append_left _ (List.mem_cons_of_mem _ hp)), I.hok, I.len⟩
end
end L2
namespace Z
open PySem PySem.Spec PyProof.Rows L2
end Z
/-! # a parameter that is None or a list that is lent -/
namespace Z
open PySem PySem.Spec PyProof.Rows L2
section
variable {K : PySem.W.Frag} {H Ho Ho' : Hp} {rs rs' : List (Addr × HO)} {α : Type} [Py α] {v : V}
def OVq (K : PySem.W.Frag) (rs : List (Addr × HO)) (Ho : Hp) (v : V) (x : Option (List α)) : Prop := match x with
  | none => v = .non
  | some xs => LV K rs Ho v xs
theorem OVq.non : OVq K rs Ho .non (none : Option (List α)) := rfl
theorem OVq.some {xs : List α} (h : LV K rs Ho v xs) : OVq K rs Ho v (some xs) := h
theorem OVq.mo {x : Option (List α)} (h : OVq K rs Ho v x) (e : Same Ho Ho') : OVq K rs Ho' v x := by
  cases x with
  | none => exact h
  | some xs => exact LV.mo h e
theorem OVq.sub {x : Option (List α)} (h : OVq K rs Ho v x) (e : ∀ r ∈ rs, r ∈ rs') : OVq K rs' Ho v x := by
  cases x with
  | none => exact h
  | some xs => exact LV.sub h e
theorem OVq.rd {x : Option (List α)} (h : OVq K rs Ho v x) (z : Zs rs' H Ho) (m : ∀ r ∈ rs, r ∈ rs') : Z.D K H v x := by
  cases x with
  | none =>
    cases (show v = .non from h)
    exact Dq.non
  | some xs =>
    obtain ⟨p, vs, rfl, d, s⟩ := LV.rd (LV.sub h m) z
    exact Dq.lst s (DL.mo d z.le)
end
end Z
/-! # two items of an own list of own things, taken out at once -/
namespace Z
open PySem PySem.Spec PyProof.Rows L2
section
variable {K : PySem.W.Frag} {H Ho H' Ho' : Hp} {R : Grp} {v w u : V} {β γ : Type} [Py β] {Φ : γ → Prop}
/-- a list, two of whose items (i, j) are looked after elsewhere -/
def OLhh (P : OwnPred β) (i : Int) (u : V) (j : Int) (w : V) : OwnPred (List β) := fun K Ho v xs g => ∃ p vs gs a b, v = .ref p ∧ RowO (P K Ho) vs xs gs ∧ ixN xs.length i = some a ∧ ixN xs.length j = some b ∧ a ≠ b ∧ vs[a]? = some u ∧ vs[b]? = some w ∧ g = (p, HO.lst vs) :: ((gs.set a []).set b []).flatten
theorem OLhh.mo {P : OwnPred β} [OwnD P] {i j : Int} {xs : List β} {g : Grp} (h : OLhh P i u j w K Ho v xs g) (e : Same Ho Ho') : OLhh P i u j w K Ho' v xs g := by
  obtain ⟨p, vs, gs, a, b, rfl, r, q⟩ := h
  exact ⟨p, vs, gs, a, b, rfl, r.imp fun v x g h => OwnD.mo h e, q⟩
end
end Z
/-! # lists of lists that another holds; a tuple of a number and such a list; items of own lists read -/
namespace Z
open PySem PySem.Spec PyProof.Rows L2
section
variable {K : PySem.W.Frag} {H Ho H' Ho' : Hp} {R rs r0 g : Grp} {v w u v0 v1 : V} {α β γ : Type} [Py α] [Py β] {Φ : γ → Prop} {Q : VK}
def LLV (K : PySem.W.Frag) (R : Grp) (Ho : Hp) (v : V) (xss : List (List α)) : Prop := ∃ p vs, v = .ref p ∧ LVs K R Ho vs xss ∧ (SqL K Ho p vs ∨ (p, HO.lst vs) ∈ R)
theorem SqL.mo {p : Addr} {vs : List V} (s : SqL K Ho p vs) (e : Same Ho Ho') : SqL K Ho' p vs := e.seq s
theorem LLV.mo {xss : List (List α)} (h : LLV K R Ho v xss) (e : Same Ho Ho') : LLV K R Ho' v xss := by
  obtain ⟨p, vs, rfl, l, s⟩ := h
  exact ⟨p, vs, rfl, l.mo e, s.imp (fun s => SqL.mo s e) id⟩
theorem LVs.sub {R2 : Grp} (e : ∀ r ∈ R, r ∈ R2) : ∀ {vs : List V} {xss : List (List α)}, LVs K R Ho vs xss → LVs K R2 Ho vs xss
  | _, _, .nil => .nil
  | _, _, .cons a t => .cons (a.sub e) (t.sub e)
theorem LLV.sub {R2 : Grp} {xss : List (List α)} (h : LLV K R Ho v xss) (e : ∀ r ∈ R, r ∈ R2) : LLV K R2 Ho v xss := by
  obtain ⟨p, vs, rfl, l, s⟩ := h
  exact ⟨p, vs, rfl, l.sub e, s.imp id (e _)⟩
theorem lvs_ofD : ∀ {vs : List V} {xss : List (List α)}, DL K Ho vs xss → LVs K R Ho vs xss
  | [], [], _ => .nil
  | [], _ :: _, h => by cases h
  | _ :: _, [], h => by cases h
  | v :: vs, x :: xs, h => by
    cases h with
    | cons h1 h2 => exact .cons (LV.of h1) (lvs_ofD h2)
theorem k_srcLL {RI : It → Hp → Prop} {xss : List (List α)} (h : LLV K r0 Ho v xss) (m : ∀ r ∈ r0, r ∈ rs) (z : Zs rs H Ho) (k : ∀ J, TrnP (fun Ho x a => LV K r0 Ho x a) r0 J xss Ho → RI J H) : SrcL K RI v H := by
  obtain ⟨p, vs, rfl, l, s⟩ := h
  have st : ∀ {rs' : Grp} {H' Ho' : Hp}, Same Ho Ho' → Zs rs' H' Ho' → (∀ r ∈ r0, r ∈ rs') → SqL K H' p vs := fun e z sub => src_stay s e z sub
  refine ⟨p, rfl, ⟨vs, st (Same.refl _) z m⟩, k _ ?_⟩
  intro i rs' H' Ho' e z' sub
  have sq := st e z' sub
  refine ⟨fun a ha => ?_, fun hl => ⟨vs, sq, by rw [l.len]; exact hl⟩⟩
  obtain ⟨u, hu, lu⟩ := l.get ha
  refine ⟨⟨vs, u, sq, hu⟩, fun x H'' y => ?_⟩
  obtain ⟨rfl, y⟩ := y
  have ex : x = u := Option.some.inj ((y _ sq).symm.trans hu)
  subst ex
  exact ⟨Ho', Same.refl _, fun _ z => z, lu.mo e⟩
/-- a number, and a list of lists -/
def LPG (K : PySem.W.Frag) (R : Grp) (Ho : Hp) (v : V) (x : Int × List (List α)) : Prop := ∃ v1, TupAt Ho v (.int x.1) v1 ∧ LLV K R Ho v1 x.2
theorem LPG.of2 {n : Int} {xss : List (List α)} (t : TupAt Ho v (.int n) v1) (l : LLV K R Ho v1 xss) : LPG K R Ho v (n, xss) := ⟨v1, t, l⟩
theorem LPG.mo {x : Int × List (List α)} (h : LPG K R Ho v x) (e : Same Ho Ho') : LPG K R Ho' v x := by
  obtain ⟨v1, t, l⟩ := h
  exact ⟨v1, t.mo e, l.mo e⟩
theorem LPG.sub {R2 : Grp} {x : Int × List (List α)} (h : LPG K R Ho v x) (e : ∀ r ∈ R, r ∈ R2) : LPG K R2 Ho v x := by
  obtain ⟨v1, t, l⟩ := h
  exact ⟨v1, t, l.sub e⟩
/-! items that are read -/
/-! pop of a list of own things -/
end
end Z
/-! # a tuple of two pairs of one's own; a loop over it, turn by turn; a borrowed pair -/
namespace Z
open PySem PySem.Spec PyProof.Rows L2
section
variable {K : PySem.W.Frag} {H Ho H' Ho' : Hp} {α β α' β' γ : Type} [Py α] [Py β] [Py α'] [Py β'] {Φ : γ → Prop} {R R' g0 g1 g rs : Grp} {v w u v0 v1 : V} {Q : VK} {σ σ' : L2.St} {x : (List α × List β) × (List α' × List β')} {p : List α × List β} {q : List α' × List β'}
def OPP (K : PySem.W.Frag) (Ho : Hp) (v : V) (x : (List α × List β) × (List α' × List β')) (g : Grp) : Prop := ∃ v0 v1 g0 g1, TupAt Ho v v0 v1 ∧ OP K Ho v0 x.1 g0 ∧ OP K Ho v1 x.2 g1 ∧ g = g0 ++ g1
theorem OPP.mo (h : OPP K Ho v x g) (e : Same Ho Ho') : OPP K Ho' v x g := by
  obtain ⟨v0, v1, g0, g1, t, o0, o1, rfl⟩ := h
  exact ⟨v0, v1, g0, g1, t.mo e, o0.mo e, o1.mo e, rfl⟩
/-- a pair of lists that another holds -/
def LP (K : PySem.W.Frag) (R : Grp) (Ho : Hp) (v : V) (x : List α × List β) : Prop := ∃ v0 v1, TupAt Ho v v0 v1 ∧ LV K R Ho v0 x.1 ∧ LV K R Ho v1 x.2
theorem LP.of2 {xs : List α} {ys : List β} (t : TupAt Ho v v0 v1) (l0 : LV K R Ho v0 xs) (l1 : LV K R Ho v1 ys) : LP K R Ho v (xs, ys) := ⟨v0, v1, t, l0, l1⟩
variable {g' : TG} {u1 tb : TS} {D : Ends} {J : It}
end
end Z
/-! # things that are read for a while: displays of what others hold -/
namespace Z
open PySem PySem.Spec PyProof.Rows L2
def RdV {α : Type} [Py α] (K : PySem.W.Frag) (R : Grp) (Ho : Hp) (v : V) (x : α) : Prop := ∀ rs H, (∀ r ∈ R, r ∈ rs) → Zs rs H Ho → Z.D K H v x
inductive RdAll (K : PySem.W.Frag) (R : Grp) (Ho : Hp) : List V → List PyData → Prop
  | nil : RdAll K R Ho [] []
  | cons {v : V} {d : PyData} {vs : List V} {ds : List PyData} (h : RdV K R Ho v d) (t : RdAll K R Ho vs ds) : RdAll K R Ho (v :: vs) (d :: ds)
section
variable {K : PySem.W.Frag} {H Ho H' Ho' : Hp} {R R2 rs g : Grp} {v w : V} {α β γ : Type} [Py α] [Py β] {Φ : γ → Prop} {Q : VK} {vs : List V} {ds : List PyData}
theorem Zs.back (z : Zs rs H Ho') (e : Same Ho Ho') : Zs rs H Ho := ⟨e.trans z.le, fun r h => ⟨(z.rt r h).1, by
  cases q : Ho r.1 with
  | none => rfl
  | some o =>
    have := e _ _ q
    rw [(z.rt r h).2] at this
    cases this⟩, z.nd, z.nt⟩
theorem RdV.mo {x : α} (h : RdV K R Ho v x) (e : Same Ho Ho') : RdV K R Ho' v x := fun rs H m z => h rs H m (z.back e)
theorem RdV.sub {x : α} (h : RdV K R Ho v x) (e : ∀ r ∈ R, r ∈ R2) : RdV K R2 Ho v x := fun rs H m z => h rs H (fun r hr => m r (e r hr)) z
theorem RdV.rd {x : α} (h : RdV K R Ho v x) (m : ∀ r ∈ R, r ∈ rs) (z : Zs rs H Ho) : Z.D K H v x := h rs H m z
theorem RdV.py {x : α} (h : RdV K R Ho v x) : RdV K R Ho v (toPy x) := fun rs H m z => h rs H m z
theorem RdV.int {x : Int} : RdV K R Ho (.int x) x := fun _ _ _ _ => .int _
theorem RdV.bl {x : Bool} : RdV K R Ho (.bl x) x := fun _ _ _ _ => .bl _
theorem RdV.str {x : Str} : RdV K R Ho (.str x) x := fun _ _ _ _ => .str _
theorem RdV.non : RdV K R Ho .non PyData.none := fun _ _ _ _ => .non
theorem RdAll.all (m : ∀ r ∈ R, r ∈ rs) (z : Zs rs H Ho) : ∀ {vs : List V} {ds : List PyData}, RdAll K R Ho vs ds → DqAll K H vs ds
  | _, _, .nil => .nil
  | _, _, .cons h t => .cons (h rs H m z) (t.all m z)
theorem RdAll.mo (e : Same Ho Ho') : ∀ {vs : List V} {ds : List PyData}, RdAll K R Ho vs ds → RdAll K R Ho' vs ds
  | _, _, .nil => .nil
  | _, _, .cons h t => .cons (h.mo e) (t.mo e)
/-! a way of its own where an error may leave -/
section
variable {δ : Type} {Ψ : δ → Prop} {a : Bool} {c1 c2 : W δ} {X : Prop} {QB : Bool → Hp → Prop}
theorem w_or2V (hw : (W.ite a c1 c2).run Ψ) (h1 : a = true → c1.run Ψ → Q (.bl true) H) (h2 : a = false → c2.run Ψ → X) : if a = true then Q (.bl true) H else X := by
  cases a with
  | true => exact iteT (h1 rfl (hw.1 rfl))
  | false => exact iteF (h2 rfl (hw.2 rfl))
end
theorem LLV.ofL {xss : List (List α)} (o : OL K Ho v xss g) (m : ∀ r ∈ g, r ∈ R) : LLV K R Ho v xss := by
  obtain ⟨p, vs, rfl, d, rfl⟩ := o
  exact ⟨p, vs, rfl, lvs_ofD d, .inr (m _ List.mem_cons_self)⟩
/-! a pair of lists, lent -/
end
end Z
/-! # min(xs, key=len, default=None), xs a list of lists; displays of dicts with one key -/
namespace Z
open PySem PySem.Spec PyProof.Rows L2
/-! displays of dicts with one key -/
/-! xs.remove(x) of four ints -/
section
theorem lay4s : ∀ {xs : List (P4 Int Int Int Int)}, PyData.canLayAll0 (xs.map Py.toPy) = true
  | [] => rfl
  | x :: xs => by
    show (PyData.canLay0 (toPy x) && PyData.canLayAll0 (xs.map Py.toPy)) = true
    rw [lay4s (xs := xs), Bool.and_true]; rfl
variable {X : Cx} {K : PySem.W.Frag} {H Ho : Hp} {R : Grp} {Q : VK} {v w : V} {γ : Type} {Φ : γ → Prop}
end
/-! None, True or False -/
end Z
/-! # the least of a list of tuples of four ints, None where there is none -/
namespace Z
open PySem PySem.Spec PyProof.Rows L2
abbrev N4 := P4 Int Int Int Int
def tup4 (x : N4) : PySem.W.Tup Int := ⟨[x.a, x.b, x.c, x.d]⟩
def lt4 (x y : N4) : Bool := PySem.W.DatumOrd.lt (tup4 x) (tup4 y)
def mn4 : List N4 → Option N4
  | [] => none
  | x :: xs => some (xs.foldl (fun a y => if lt4 y a = true then y else a) x)
theorem minOf4 : ∀ (xs : List N4) (x : N4), PySem.W.minOf (tup4 x) (xs.map tup4) = tup4 (xs.foldl (fun a y => if lt4 y a = true then y else a) x)
  | [], _ => rfl
  | y :: ys, x => by
    have ih := minOf4 ys (if lt4 y x = true then y else x)
    unfold PySem.W.minOf at ih ⊢
    rw [List.map_cons, List.foldl_cons, List.foldl_cons, ← ih]
    congr 1
    show (if lt4 y x = true then tup4 y else tup4 x) = _
    split <;> rfl
theorem tup4_inj {x y : N4} (h : tup4 x = tup4 y) : x = y := by
  obtain ⟨a, b, c, d⟩ := x
  obtain ⟨a', b', c', d'⟩ := y
  injection h with h
  simp only [List.cons.injEq, and_true] at h
  obtain ⟨h1, h2, h3, h4⟩ := h
  rw [h1, h2, h3, h4]
def rMn4 (K : PySem.W.Frag) : List V → List V → Hp → VK → Prop := fun vs zs H Q => ∃ (a : Addr) (ws : List V) (xs : List N4), vs = [.ref a] ∧ zs = [.non] ∧ SqL K H a ws ∧ DL K H ws xs ∧ (xs = [] → Q .non H) ∧ ∀ (i : Nat) (w : V) (x : N4), ws[i]? = some w → xs[i]? = some x → mn4 xs = some x → Q w H
section
variable {X : Cx} {K : PySem.W.Frag} {H Ho : Hp} {R rs : Grp} {Q : VK} {v : V}
theorem zmn4 (hK : X.K = K) (hc : X.calm = true) (hu : X.A.units + 64 < cLine) : CallRK X (.builtin "min") [Str.ofString "default"] (rMn4 K) := by
  subst hK
  intro pins s σ H vs zs us ws Q I r rz h
  obtain ⟨a, wv, xs, rfl, rfl, hs, dl, q0, q⟩ := h
  obtain rfl := Vals.ref1 r
  obtain ⟨w1, rfl, rw1⟩ := vals1 rz
  cases (show w1 = Value.none from rw1)
  obtain ⟨its, rv, hl, hz⟩ := I.list hs
  obtain ⟨as, ra⟩ := Dp.readsAll I _ _ its (DqAll.dp _ _ lay4s dl) rv
  have hold : PySem.W.HoldAll s.heap its (xs.map tup4) := ⟨as, by rw [List.map_map]; exact ra⟩
  refine PySem.W.min_list_datum_default (α := PySem.W.Tup Int) (xs := xs.map tup4) (I.ok.hd hc) hl.isList hold (by show X.A.units + 1 + 1 < cLine; omega) (fun e h' tk k => ⟨.non, H, I.kept (t' := tk) k, rfl, q0 (List.map_eq_nil_iff.mp e)⟩) fun y ys i v h' tk e hi hh k => ?_
  have hi' : its[i]? = some v := by simpa using hi
  obtain ⟨t, ht, ho⟩ := hold.at hi'
  rw [List.getElem?_map] at ht
  cases ex : xs[i]? with
  | none => rw [ex] at ht; cases ht
  | some x =>
    rw [ex] at ht
    cases ht
    have hx := (List.getElem?_eq_some_iff.mp ex).1
    have hl1 : wv.length = xs.length := DL.len dl
    obtain ⟨w, hw⟩ : ∃ w, wv[i]? = some w := ⟨_, List.getElem?_eq_getElem (by omega)⟩
    obtain ⟨u, hu1, ru⟩ := Vals.get rv hw
    rw [hi'] at hu1
    cases hu1
    refine ⟨w, H, I.kept (t' := tk) k, ru, q i w x hw ex ?_⟩
    cases xs with
    | nil => cases e
    | cons z zs =>
      rw [List.map_cons] at e
      injection e with e1 e2
      subst e1 e2
      obtain ⟨bs, r1⟩ := ho.keeps k
      obtain ⟨cs, r2⟩ := hh
      have := PySem.SeqAt.Reads.unique _ _ _ _ _ (show (PySem.W.Datum.toD (tup4 x)).canLay0 = true from rfl) r1 r2
      rw [minOf4] at this
      show some _ = some x
      congr 1
      refine (tup4_inj ?_).symm
      have e3 : ∀ a b : PySem.W.Tup Int, PySem.W.Datum.toD a = PySem.W.Datum.toD b → a = b := fun a b h => by
        have := PySem.W.Datum.eqv a b
        rw [h, PySem.W.Datum.eqv b b, decide_eq_true rfl] at this
        exact of_decide_eq_true this.symm
      exact e3 _ _ this
theorem y_mn4 {xs : List N4} (d : LV K rs Ho v xs) (z : Zs rs H Ho) (k : ∀ w, Z.D K Ho w (mn4 xs) → Q w H) : rMn4 K [v] [.non] H Q := by
  obtain ⟨p, vs, rfl, d1, s⟩ := LV.rd d z
  refine ⟨p, vs, xs, rfl, rfl, s, DL.mo d1 z.le, fun e => ?_, fun i w x hw hx e => ?_⟩
  · subst e; exact k _ Dq.non
  · refine k w ?_
    rw [e]
    have := dpAll_get d1 (i := i) (d := toPy x) (by rw [List.getElem?_map, hx]; rfl)
    obtain ⟨u, hu, du⟩ := this
    rw [hw] at hu
    cases hu
    exact du
end
end Z
/-! # len(range(n)) -/
namespace Z
open PySem PySem.Spec PyProof.Rows L2
def tLenRg (te : L2.St → Hp → (Int → Int → Hp → Prop) → Prop) : TE := fun σ H Q => te σ H fun a b H1 => RgOk a b ∧ Q (.int ((b - a).toNat : Nat)) H1
section
variable {X : Cx} {e : Expr} {te : L2.St → Hp → (Int → Int → Hp → Prop) → Prop} {σ : L2.St} {H : Hp} {Q : VK}
theorem pe_lenRg {p pos : Pos} (hg : Gl X "len") (hm : X.mg "len" = none) (hv : bootBuiltins "len" = some (.builtin "len")) (he : PRg X e te) (na : starEach [e] X.env = (false, eval e X.env) :: starEach [] X.env := by rfl) : PE X (.Call (.Name "len" p) [e] [] pos) (tLenRg te) := by
  refine ⟨fun pins s σ H Q I h => ?_⟩
  refine Call_ (ld_blt I hg hm hv (PyProof.Rows.callWith_builtin1 (args_cons (thn (he pins s σ H _ I h) fun x s1 ⟨r, a, b, t, u, v, H1, ex, hr, I1, ok, q⟩ => args_nil ?_) na) na) (by decide) (by decide))
  subst ex
  obtain ⟨b1, b2, b3, b4, b5⟩ := ok
  refine call_len_range (n := (b - a).toNat) hr (rangeSize_nat a b) (by omega) ?_
  exact ⟨.int _, H1, I1.tok _, ⟨_, rfl⟩, q⟩
theorem k_lenRg (k : te σ H fun a b H1 => RgOk a b ∧ Q (.int ((b - a).toNat : Nat)) H1) : tLenRg te σ H Q := k
end
end Z
/-! # for x in reversed(range(n)) -/
namespace Z
open PySem PySem.Spec PyProof.Rows L2
end Z
/-! # zip(xs, ys, strict=True) over two lists of one length -/
namespace PySem
open Sem (wp)
/-! ### the call -/
end PySem
namespace PyProof.Rows
open PySem
end PyProof.Rows
namespace L2
open PySem PySem.Spec PyProof.Rows
end L2
namespace Z
open PySem PySem.Spec PyProof.Rows L2
end Z
/-! # sum(lists, start=[]): lists of ints, one behind the other -/
namespace PySem
open Sem (wp)
end PySem
namespace Z
open PySem PySem.Spec PyProof.Rows L2
end Z
/-! # errors that hold a field; errors kept and told as values -/
namespace PySem.W
open PySem PySem.Spec PySem.Calls PyProof.Rows
/-! ### isinstance of an exception that has its dict (after HandS.ExcIs, which has it for none) -/
section
variable {prog : Program} {w : World} {A : Around} {E : Value → Shared → Prop} {s : Shared} {K : Frag} {x D : Addr} {ox : Obj}
theorem findObj_dataD {od : Option Obj} {C : Addr} {name : Str} {a g : Value} (hc : (clsIn K C).isSome = true) (ha : findIn K (.ref C) name = some (some a)) (hg : specialIn K a "__get__" = some (some g)) (ht : takesIn K a = some true) : findObj K C od name = some (.bind g a) := by
  obtain ⟨cd, hc⟩ := Option.isSome_iff_exists.mp hc
  unfold findObj
  rw [hc, Option.bind_some, ha, Option.bind_some]
  simp [hg, ht]
theorem kin_classD {od : Option Obj} {Q : Option Value → Shared → Prop} (hga : findIn K (.ref D) "__getattribute__" = some (some (.builtin "BaseException.__getattribute__"))) (hgt : findIn K (.ref D) "__getattr__" = some none) (hsub : subIn K (.ref D) (.type "BaseException") = some true)
    (hdct : hasDictIn K D = true) (ha : findIn K (.ref D) "__class__" = some (some (.builtin "object.__class__")))
    (hn : specialIn K (.builtin "object.__class__") "__get__" = some (some (.builtin "getset_descriptor.__get__"))) (htk : takesIn K (.builtin "object.__class__") = some true) (hm : mroIn K D (.type "object") = some true)
    (X : K.In s.heap) (I : InstAt s.heap x ox D od) (h : Q (some (.ref D)) { s with toks := s.toks + 1 }) : wpAny (model prog w) A (getAttr? (.ref x) "__class__") Q E s := by
  have hf : findObj K D od "__class__" = some (.bind (.builtin "getset_descriptor.__get__") (.builtin "object.__class__")) := findObj_dataD (by obtain ⟨cd, hc, _⟩ := any_some hdct; rw [hc]; rfl) ha hn htk
  obtain ⟨hp, g, d, t, os⟩ := s
  have L0 := I.type (M := model prog w)
  have L1 := looks_findIn (M := model prog w) X hga
  have L2 := looks_findIn (M := model prog w) X hgt
  have L3 := looks_find (M := model prog w) X I hf
  have sub : Looks (model prog w) hp (isInstance (.ref x) (.type "BaseException")) true := L0.andThen (looks_subIn X hsub)
  have hx0 : (false && onTheHeap (Value.builtin "BaseException.__getattribute__")) = false := rfl
  have hx2 : (Value.builtin "BaseException.__getattribute__" == Value.builtin "object.__getattribute__") = false := by decide +kernel
  have hx1 : (onTheHeap (Value.ref D) && Value.builtin "BaseException.__getattribute__" == Value.builtin "object.__getattribute__") = false := by rw [hx2]; rfl
  unfold getAttr? getAttrBy? getAttrBy
  refine wpAny_bind (wpAny_mkText (wpAny_bind (wpAny_attempt (wpAny_holding (wpAny_bind (L0.at (wpAny_bind (L1.at ?_))))))))
  show wpAny _ _ (if (onTheHeap (Value.ref D) && Value.builtin "BaseException.__getattribute__" == Value.builtin "object.__getattribute__") = true then _ else _) _ _ _
  rw [hx1, if_neg Bool.false_ne_true]
  unfold getAttrByItsOwn hookBefore
  refine wpAny_bind ?_
  rw [if_pos (show onTheHeap (Value.ref D) = true from rfl)]
  refine L2.at ?_
  refine wpAny_bind (wpAny_attempt (wpAny_holding ?_))
  unfold callGetattribute
  rw [hx0, if_neg Bool.false_ne_true]
  unfold boundAndCalled
  rw [PySem.F.excAttr_ValueError.ga.bind (.ref x)]
  refine wpAny_bind (wpAny_pure ?_)
  show wpAny _ _ (call (.builtin "BaseException.__getattribute__") [.ref x, .str "__class__" t]) _ _ _
  refine wpAny_call (codeAny_call_builtin PySem.F.excAttr_ValueError.ga.plain PySem.F.entry_bexc_ga ?_)
  refine @check_slot (model prog w) _ _ ⟨hp, g, d, t + 1, os⟩ "BaseException.__getattribute__" "BaseException" "__getattribute__" (.ref x) [.str "__class__" t] [] _ (by decide +kernel) (by decide +kernel) sub (PySem.F.args_bexc_ga (.ref x) (.str "__class__" t)) ?_
  unfold Builtin.«object.__getattribute__»
  refine wpAny_bind (wpAny_of_eq (a := ((Value.ref x : Value), [Value.str "__class__" t])) (by first | rfl | (simp only [slotArgs]; rfl)) ?_)
  refine wpAny_bind (wpAny_pure (wpAny_bind (L0.at (wpAny_bind (L3.at ?_)))))
  show wpAny _ _ (holding [Value.builtin "object.__class__"] (call (.builtin "getset_descriptor.__get__") [.builtin "object.__class__", .ref x, .ref D]) >>= ret) _ _ _
  refine wpAny_bind (wpAny_holding (wpAny_call (class_get (s := ⟨hp, g, d, t + 1, os⟩) (ox := ox) (od := od) X I hm ?_)))
  refine wpAny_pure ?_
  show wpAny _ _ (handedOut (.ref D)) _ _ _
  rw [handedOut_of (v := .ref D) rfl]
  first
    | exact wpAny_pure (wpAny_pure h)
    | exact wpAny_pure h
    | exact wpAny_pure (wpAny_bind (wpAny_pure (wpAny_pure h)))
theorem kitx_excD {od : Option Obj} (hga : findIn K (.ref D) "__getattribute__" = some (some (.builtin "BaseException.__getattribute__"))) (hgt : findIn K (.ref D) "__getattr__" = some none) (hsub : subIn K (.ref D) (.type "BaseException") = some true) (hdct : hasDictIn K D = true) (ha : findIn K (.ref D) "__class__" = some (some (.builtin "object.__class__")))
    (hn : specialIn K (.builtin "object.__class__") "__get__" = some (some (.builtin "getset_descriptor.__get__"))) (htk : takesIn K (.builtin "object.__class__") = some true) (hm : mroIn K D (.type "object") = some true) :
    KitX K (.ref x) (.ref D) (fun h => InstAt h x ox D od) where
  ty := fun _ _ _ I => I.type
  it := fun _ _ X _ => by
    obtain ⟨cdD, hcD, _⟩ := any_some hdct
    unfold clsIn at hcD
    split at hcD
    · rename_i c' d' cd' sl' ho
      intro A' Q' E' s' k q
      unfold isType loadHead
      exact wpAny_bind (wpAny_loadPart (k _ _ (X _ _ ho)) (wpAny_pure q))
    · cases hcD
  ne := fun h tp dd its n sl X htp => by
    obtain ⟨cdD, hcD, _⟩ := any_some hdct
    refine Bool.eq_false_iff.mpr fun q => ?_
    have e : D = tp := Value.ref.inj (beq_iff_eq.mp q)
    subst e
    unfold clsIn at hcD
    split at hcD
    · rename_i c' d' cd' sl' ho
      have z := (X _ _ ho).symm.trans htp
      cases z
    · cases hcD
  ca := fun X I k => kin_classD hga hgt hsub hdct ha hn htk hm X I k
end
end PySem.W
namespace L2
open PySem PySem.Spec PyProof.Rows
section
variable {X : Cx} {e : Expr} {es : List Expr} {ta : TA} {x : Str} {p1 p2 pos : Pos}
/-- C0.__init__(self, ..), C0 an own class over ValueError without an __init__ of its own -/
theorem pe_neinit {C0 : Addr} {mc : Value} {pl : Sem Bool} (hg : Gl X x) (hm : X.mg x = some (.ref C0)) (gga : PySem.W.specialIn X.K (.ref C0) "__getattribute__" = some (some (.builtin "type.__getattribute__"))) (hr : PySem.W.readsIn X.K C0 mc = true)
    (vV : PySem.W.findCls X.K (.ref C0) mc "__init__" = some (.val (.builtin "ValueError.__init__"))) (ha : PA X (e :: es) ta)
    (hc : eval (.Call (.Attribute (.Name x p1) "__init__" p2) (e :: es) [] pos) X.env = (do
      let ov ← eval (.Name x p1) X.env
      standAt p2.atName
      let (f, first) ← holding [ov] (getMethod ov "__init__" pl)
      callWith pos f first (backTo pos (starEach (e :: es) X.env)) (backToKw pos (keywordEach [] X.env))) := by rfl)
    (hdb : (x == ("__debug__" : Str)) = false := by decide)
    (he : starEach (e :: es) X.env = (false, eval e X.env) :: starEach es X.env := by rfl) (hpl : (backTo pos (starEach es X.env)).any (·.1) = false := by rfl) :
    PE X (.Call (.Attribute (.Name x p1) "__init__" p2) (e :: es) [] pos) (tVeI X.K ta) := by
  refine ⟨fun pins s σ H Q I h => ?_⟩
  refine PySem.W.methodCall_KW (ld_glob I hg hm ?_ hdb) hc
  refine PySem.W.method_cls (s := { s with toks := s.toks }) I.kIn gga ?_
  refine PySem.W.cls_value I.kIn hr vV (by decide +kernel) ?_
  show wpAny _ _ (callWith pos (Value.builtin "ValueError.__init__") [] (backTo pos (starEach (e :: es) X.env)) []) _ _ _
  refine PyProof.Rows.callWith_method1 (thn (ha.run pos pins _ σ H _ (I.tok _) h) fun us s1 ⟨vs, H1, I1, r1, a, C, ws, ev, hl, T, ea, q⟩ => ?_) he hpl
  subst ev
  cases r1 with
  | @cons _ u0 _ ur ra rw' =>
    obtain rfl : u0 = Value.ref a := ra
    have hlen : ur.length ≤ sizeLine := by
      rw [← Paired.length rw', sizeLine_eq]
      omega
    exact oinit_ok T I1 ea hlen fun s' J => ⟨.non, H1, J, rfl, q⟩
end
/-! ### an exception that is kept is told as a value -/
/-- at a: an exception of the class cls, its dict d; it stands as it is -/
def ExV (cls : Value) (d : Option Addr) (a : Addr) : HO := .ext fun h => ∃ (oe : Obj) (vs : Array Value), h.get? a = some oe ∧ Zc cls d oe ∧ oe.data = .fields vs
theorem exV_ok {P : Program} {w : World} {H : Hp} {h : Heap} {a : Addr} {cls : Value} {d : Option Addr} {oe : Obj} (e : h.get? a = some oe) (z : Zc cls d oe) (f : ∃ vs, oe.data = .fields vs) : ObjOk P w H h a (ExV cls d a) := by
  obtain ⟨vs, hd⟩ := f
  exact ⟨⟨oe, vs, e, z, hd⟩, ⟨oe, e⟩, fun _ _ ⟨o, v, q, r⟩ k => ⟨o, v, k o q, r⟩⟩
section
variable {X : Cx} {pins : List (Addr × Obj)} {σ : St} {H : Hp} {s : Shared} {a : Addr} {oe : Obj}
theorem Inv.adopt {φ : Heap → Prop} (I : Inv X pins σ H s) (hn : H a = none) (n0 : X.s_0.heap.get? a = none) (nl : a ≠ X.env.locals) (he : s.heap.get? a = some oe) (hf : ∃ vs, oe.data = .fields vs) (np : ∀ p ∈ X.pn ++ pins, p.1 ≠ a) (new : ObjOk X.prog X.w (upd H a (.ext φ)) s.heap a (.ext φ)) : Inv X pins σ (upd H a (.ext φ)) s := by
  obtain ⟨vs, hd⟩ := hf
  have ne0 : ∀ {b o}, X.s_0.heap.get? b = some o → b ≠ a := fun {b o} e z => by rw [z, n0] at e; cases e
  have B := I.base
  refine ⟨I.ok, I.os, I.bare, ⟨B.keep, B.slot, fun b o e n hx => ?_, B.there, fun b xs e => ?_, fun b o u e => ?_, fun b ps e => ?_⟩, I.loc, I.cell, ?_, fun x c e => ?_, fun p hp => ?_, I.hok.laidN (fun _ _ e => e) hn new, I.len⟩
  · rw [upd_ne (ne0 e)]; exact B.free b o e n hx
  · have q := B.tups b xs e; rw [upd_ne (ne_of_none q hn)]; exact q
  · have q := B.frzs b o u e; rw [upd_ne (ne_of_none q hn)]; exact q
  · obtain ⟨m, q⟩ := B.tbls b ps e; exact ⟨m, by rw [upd_ne (ne_of_none q hn)]; exact q⟩
  · rw [upd_ne (Ne.symm nl)]; exact I.free
  · have q := I.freeC x c e
    have hca : c ≠ a := fun z => by
      obtain ⟨v, o, ho, hdat⟩ := I.cell x c e
      rw [z, he] at ho
      cases ho
      rw [hd] at hdat
      cases hdat
    rw [upd_ne hca]; exact q
  · obtain ⟨q1, q2, q3⟩ := I.pin p hp
    exact ⟨q1, by rw [upd_ne (np p hp)]; exact q2, q3⟩
end
/-- what the clause wishes of an exception of the body; the rest of the block behind it finds the exception standing -/
def wKeepA (K : PySem.W.Frag) (c : Value) (i : Nat) (ts : Addr → Value → Option Addr → TS) (tr : TS) (Wout : WX) (D : Ends) : WX := fun cls d σ H =>
  ∃ b, PySem.W.exmOne K cls c = some b ∧ (b = true → ∀ a, H a = none → ts a cls d { nx := fun σ' H' => tr D (σ'.set i none) (upd H' a (ExV cls d a)), rt := fun _ _ => False, bk := fun _ _ => False, ct := fun _ _ => False } (σ.set i (some (.ref a))) H) ∧
    (b = false → Wout cls d σ H)
end L2
namespace L2
open PySem PySem.Spec PyProof.Rows
/-- the dict of an exception, as far as it is told -/
def DOk (H : Hp) (d : Option Addr) : Prop := d = none ∨ ∃ (dd : Addr) (fs : List (Str × V)), d = some dd ∧ H dd = some (.xd fs)
section
variable {X : Cx} {pins : List (Addr × Obj)} {σ : St} {H : Hp} {s : Shared} {a D : Addr} {oe : Obj} {d : Option Addr}
theorem inst_dict (I : Inv X pins σ H s) (he : s.heap.get? a = some oe) (hz : Zc (.ref D) d oe) (hf : ∃ vs, oe.data = .fields vs) (dk : DOk H d) : ∃ od, PySem.W.InstAt s.heap a oe D od := by
  obtain ⟨vs, hd⟩ := hf
  rcases dk with rfl | ⟨dd, fs, rfl, ea⟩
  · refine ⟨none, he, hz.1, by unfold PySem.W.notCls; rw [hd] <;> rfl, ?_⟩
    rw [hz.2]; trivial
  · have hx : ObjOk X.prog X.w H s.heap dd (.xd fs) := I.hok dd _ ea
    obtain ⟨mA, hns, hr⟩ := hx
    obtain ⟨od, ho, hl⟩ := lookIn_ns hns
    refine ⟨some od, he, hz.1, by unfold PySem.W.notCls; rw [hd] <;> rfl, ?_⟩
    rw [hz.2]; exact ho
end
end L2
namespace Z
open PySem PySem.Spec PyProof.Rows L2
/-- isinstance of an exception that is a value -/
def rIsV (K : PySem.W.Frag) : List V → Hp → VK → Prop := fun xs H Q => ∃ (a D : Addr) (d : Option Addr) (c : V) (cv : Value) (b : Bool), xs = [.ref a, c] ∧ H a = some (ExV (.ref D) d a) ∧ DOk H d ∧ ClsV c cv ∧ ExcC K D ∧ PySem.W.kitOne K (.ref D) cv = some b ∧ Q (.bl b) H
section
variable {X : Cx} {K : PySem.W.Frag}
theorem zisV (hK : X.K = K) : CallR X (.builtin "isinstance") (rIsV K) := by
  subst hK
  intro pins s σ H xs us Q I r h
  obtain ⟨a, D, d, c, cv, b, rfl, ha, dk, hcv, C, e, q⟩ := h
  obtain ⟨u1, u2, rfl, r1, r2⟩ := vals2 r
  cases (show u1 = Value.ref a from r1)
  have ec := hcv.eq r2
  subst ec
  obtain ⟨⟨oe, vs, hget, hz, hd⟩, _, _⟩ := (show ObjOk X.prog X.w H s.heap a (ExV (.ref D) d a) from I.hok a _ ha)
  obtain ⟨od, J⟩ := inst_dict I hget hz ⟨vs, hd⟩ dk
  exact PySem.W.kia_one (PySem.W.kitx_excD C.hg C.hk C.hs C.hd C.ha C.hn C.ht C.hm) I.kIn J e (fun z => nomatch z) fun tk => ⟨.bl b, H, I.tok tk, rfl, q⟩
end
end Z
/-! ### raising an error that holds a field -/
namespace L2
open PySem PySem.Spec PyProof.Rows
/-- C.__init__(self, y) of an own exception class: self.f = y, and no more -/
def spExi (K : PySem.W.Frag) (f : Str) : Sp := fun vs H Q E => ∃ (a C : Addr) (v : V), vs = [.ref a, v] ∧ OexC K C ∧ PySem.W.findIn K (.ref C) f = some none ∧ H a = some (exo a C none) ∧ ∀ dx, H dx = none → dx ≠ a → Q .non (upd (upd H dx (exd dx [(f, v)])) a (exo a C (some dx)))
end L2
namespace Z
open PySem PySem.Spec PyProof.Rows L2
/-- what a raised error holds: nothing, or one field by its name -/
def ErD (K : PySem.W.Frag) (Ho : Hp) (d : Option Addr) (er : Er) : Prop := (er.arg = .none ∧ d = none) ∨ ∃ (f : Str) (x : PyData) (dd : Addr) (fs : List (Str × V)) (v : V), er.arg = .tuple [.str f, x] ∧ d = some dd ∧ Ho dd = some (.xd fs) ∧ fs.lookup f = some v ∧ Dq K Ho v x
theorem ErD.mo {K : PySem.W.Frag} {Ho Ho' : Hp} {d : Option Addr} {er : Er} (h : ErD K Ho d er) (e : Same Ho Ho') : ErD K Ho' d er := by
  rcases h with h | ⟨f, x, dd, fs, v, h1, h2, h3, h4, h5⟩
  · exact .inl h
  · exact .inr ⟨f, x, dd, fs, v, h1, h2, e _ _ h3, h4, dp_mono e _ _ h5⟩
theorem ErD.ok {K : PySem.W.Frag} {Ho H : Hp} {d : Option Addr} {er : Er} (h : ErD K Ho d er) (e : Same Ho H) : DOk H d := by
  rcases h with h | ⟨f, x, dd, fs, v, h1, h2, h3, h4, h5⟩
  · exact .inl h.2
  · exact .inr ⟨dd, fs, h2, e _ _ h3⟩
theorem erD0 {K : PySem.W.Frag} {Ho : Hp} {n : Nat} : ErD K Ho none ⟨n, .none⟩ := .inl ⟨rfl, rfl⟩
def RsO (K : PySem.W.Frag) (C : Addr) (f : Str) (Wx : WX) (σ : L2.St) : List V → Hp → Prop := fun vs H1 => vs.length ≤ 1000 ∧ ∀ a, H1 a = none → spExi K f (.ref a :: (vs ++ [])) (upd H1 a (exo a C none))
  (fun v H2 => v = .non ∧ ∃ (d : Addr) (fs : List (Str × V)), H2 a = some (exo a C (some d)) ∧ H2 d = some (L2.exd d fs) ∧ H1 d = none ∧ Wx (.ref C) (some d) σ (upd (del H2 a) d (.xd fs))) (fun _ _ _ => False)
def tRaiseO (K : PySem.W.Frag) (C : Addr) (f : Str) (ta : TA) (Wx : WX) : TS := fun _ σ H => ta σ H (RsO K C f Wx σ)
section
variable {K : PySem.W.Frag} {rs : Grp} {H Ho : Hp} {σ : L2.St} {C : Addr} {f : Str} {Wx : WX} {v : V} {α : Type} [Py α]
theorem y_raiseO {ta : TA} {w : TS} {D : Ends} (k : ta σ H (RsO K C f Wx σ)) : tSeq (tRaiseO K C f ta Wx) w D σ H := k
theorem y_rsO {x : α} {n : Nat} (T : OexC K C) (hno : PySem.W.findIn K (.ref C) f = some none) (z : Zs rs H Ho) (d : Z.D K Ho v x) (k : ∀ H' Ho' dd, Same Ho Ho' → Zs rs H' Ho' → ErD K Ho' dd ⟨n, .tuple [.str f, toPy x]⟩ → Wx (.ref C) dd σ H') : RsO K C f Wx σ [v] H := by
  refine ⟨by show 1 ≤ 1000; decide, fun a ha => ⟨a, C, v, rfl, T, hno, upd_same, fun dx hdx hne => ⟨rfl, dx, [(f, v)], upd_same, ?_, ?_, ?_⟩⟩⟩
  · rw [upd_ne hne, upd_same]
  · rw [upd_ne hne] at hdx; exact hdx
  · have hd : H dx = none := by rw [upd_ne hne] at hdx; exact hdx
    have eh : upd (del (upd (upd (upd H a (exo a C none)) dx (L2.exd dx [(f, v)])) a (exo a C (some dx))) a) dx (.xd [(f, v)]) = upd H dx (.xd [(f, v)]) := by
      funext b
      by_cases h1 : b = dx
      · rw [h1, upd_same, upd_same]
      · rw [upd_ne h1, upd_ne h1]
        by_cases h2 : b = a
        · rw [h2, del_same, ha]
        · rw [del_ne h2, upd_ne h2, upd_ne h1, upd_ne h2]
    rw [eh]
    have e := Same.new (o := HO.xd [(f, v)]) (z.free hd)
    exact k _ _ (some dx) e (z.alloc hd) (.inr ⟨f, toPy x, dx, [(f, v)], v, rfl, rfl, upd_same, by simp [List.lookup], D.mo d e⟩)
end
section
variable {X : Cx} {K : PySem.W.Frag} {x : Str} {C fI : Addr} {k : Nat} {fd : FuncData} {ps : List Str} {f : Str} {Wx : WX} {e : Expr} {ta : TA} {p pos pos' : Pos}
theorem zps_raiseO (hK : X.K = K) (hc : X.calm = true) (tk : Takes X Wx) (T : OexC K C) (iC : PySem.W.findIn K (.ref C) "__init__" = some (some (.ref fI))) (tI : PySem.W.typeIn K (.ref fI) = some (.type "function"))
    (F1 : FnOk X.prog X.w K X.mg X.base CX0 k fI fd ps (spExi K f)) (hr : Room (k + 1) X.A) (hb : Binds K fd ps []) (hg : Gl X x) (hm : X.mg x = some (.ref C)) (ha : PA X [e] ta) (hpx : Passes CX0 X (fun _ _ _ => False))
    (hdb : (x == ("__debug__" : Str)) = false := by decide) (he : starEach [e] X.env = (false, eval e X.env) :: starEach [] X.env := by rfl) :
    PS X (.Raise (some (.Call (.Name x p) [e] [] pos)) none pos') (tRaiseO K C f ta Wx) := by
  subst hK
  exact ps_raise hc tk (pmk_oex (dvs := []) (ds := []) T iC tI F1 hr hb .nil hpx hg hm ha hdb he (by rfl))
end
end Z
namespace Z
open PySem PySem.Spec PyProof.Rows L2
/-- None, or an exception that is a value -/
def XV (cl : Nat → Addr) (K : PySem.W.Frag) (Ho : Hp) (v : V) : Option Er → Prop
  | none => v = .non
  | some er => ∃ (a : Addr) (d : Option Addr), v = .ref a ∧ Ho a = some (ExV (.ref (cl er.cls)) d a) ∧ ErD K Ho d er
theorem XV.mo {cl : Nat → Addr} {K : PySem.W.Frag} {Ho Ho' : Hp} {v : V} {x : Option Er} (h : XV cl K Ho v x) (e : Same Ho Ho') : XV cl K Ho' v x := by
  cases x with
  | none => exact h
  | some er =>
    obtain ⟨a, d, h1, h2, h3⟩ := h
    exact ⟨a, d, h1, e _ _ h2, h3.mo e⟩
section
variable {K : PySem.W.Frag} {H Ho : Hp} {rs : Grp} {σ : L2.St} {cl : Nat → Addr} {Q : VK} {v u : V} {er : Er}
theorem y_isV {cv : Value} {b : Bool} (xv : XV cl K Ho v (some er)) (z : Zs rs H Ho) (xc : ExcC K (cl er.cls)) (k : ClsV u cv) (e : PySem.W.kitOne K (.ref (cl er.cls)) cv = some b) (q : Q (.bl b) H) : rIsV K [v, u] H Q := by
  obtain ⟨a, d, rfl, h2, h3⟩ := xv
  exact ⟨a, cl er.cls, d, u, cv, b, rfl, z.le _ _ h2, h3.ok z.le, k, xc, e, q⟩
end
end Z
/-! # errors as values, in the walks -/
namespace Z
open PySem PySem.Spec PyProof.Rows L2
section
variable {K : PySem.W.Frag} {H Ho : Hp} {rs : Grp} {cl : Nat → Addr} {Q : VK} {v : V} {er : Er} {γ : Type} {Φ : γ → Prop}
theorem y_getX {P : Prop} {x : Option Er} {f : Er → W γ} (d : XV cl K Ho v x) (hw : (W.bind (W.opt x) f).run Φ) (k : ∀ t, XV cl K Ho v (some t) → (f t).run Φ → P) : P := by
  obtain ⟨t, rfl, h⟩ := run_opt' hw
  exact k t d h
end
end Z
/-! # an error that is made and not raised: a value -/
namespace L2
open PySem PySem.Spec PyProof.Rows
end L2
namespace Z
open PySem PySem.Spec PyProof.Rows L2
/-- isinstance of an exception that is a value, several classes -/
def rIsVT (K : PySem.W.Frag) : List V → Hp → VK → Prop := fun xs H Q => ∃ (a D : Addr) (d : Option Addr) (tp : Addr) (cs : List V) (us : List Value) (b : Bool), xs = [.ref a, .ref tp] ∧ H a = some (ExV (.ref D) d a) ∧ DOk H d ∧ H tp = some (.tup cs) ∧ Paired ClsV cs us ∧ ExcC K D ∧ PySem.W.kitAny K (.ref D) us = some b ∧ Q (.bl b) H
section
variable {X : Cx} {K : PySem.W.Frag}
theorem zisVT (hK : X.K = K) : CallR X (.builtin "isinstance") (rIsVT K) := by
  subst hK
  intro pins s σ H xs us Q I r h
  obtain ⟨a, D, d, tp, cs, ws, b, rfl, ha, dk, hT, k, C, e, q⟩ := h
  obtain ⟨u1, u2, rfl, r1, r2⟩ := vals2 r
  cases (show u1 = Value.ref a from r1)
  cases (show u2 = Value.ref tp from r2)
  obtain ⟨_, its, rv, o, h1, h2, n, h3⟩ := (show ObjOk X.prog X.w H s.heap tp (.tup cs) from I.hok tp _ hT)
  have e3 := ClsV.all k rv
  subst e3
  obtain ⟨oc, od', dt, sl⟩ := o
  simp only at h2 h3
  subst h2 h3
  obtain ⟨⟨oe, vs, hget, hz, hd⟩, _, _⟩ := (show ObjOk X.prog X.w H s.heap a (ExV (.ref D) d a) from I.hok a _ ha)
  obtain ⟨od, J⟩ := inst_dict I hget hz ⟨vs, hd⟩ dk
  exact PySem.W.kia_tup (PySem.W.kitx_excD C.hg C.hk C.hs C.hd C.ha C.hn C.ht C.hm) I.kIn J h1 e (fun z => nomatch z) fun tk => ⟨.bl b, H, I.tok tk, rfl, q⟩
end
section
variable {K : PySem.W.Frag} {H Ho : Hp} {rs : Grp} {σ : L2.St} {cl : Nat → Addr} {Q : VK} {v : V} {er : Er}
theorem y_isVT {p : Addr} {vs : List V} {us : List Value} {b : Bool} (xv : XV cl K Ho v (some er)) (z : Zs rs H Ho) (hp : H p = some (.tup vs)) (xc : ExcC K (cl er.cls)) (k : Paired ClsV vs us) (e : PySem.W.kitAny K (.ref (cl er.cls)) us = some b) (q : Q (.bl b) H) : rIsVT K [v, .ref p] H Q := by
  obtain ⟨a, d, rfl, h2, h3⟩ := xv
  exact ⟨a, cl er.cls, d, p, vs, us, b, rfl, z.le _ _ h2, h3.ok z.le, hp, k, xc, e, q⟩
end
end Z
/-! # sorted(set(..)) of fewer than 64 tuples of ints; tuples alone are kept of what stands for good -/
namespace Z
open PySem PySem.Spec PyProof.Rows L2
section
variable {α : Type} [Py α] [Ktup α]
variable {K : PySem.W.Frag} {H Ho H' Ho' : Hp} {R : Grp} {v w : V} {Q : VK} {P : Program} {wd : World} {a : Addr} {L : List (Addr × List Int)} {xs : List α}
theorem tup_at {x : α} (d : Z.D K Ho w x) : ∃ p, w = .ref p ∧ Ho p = some (.tup ((Ktup.key x).map V.int)) := by
  have d : Dq K Ho w (toPy x) := d
  rw [Ktup.py] at d
  cases d with
  | tup hs ha =>
    have e := dl_ints (xs := Ktup.key x) ha
    rw [e] at hs
    exact ⟨_, rfl, hs⟩
theorem at_tup {x : α} {p : Addr} (h : Ho p = some (.tup ((Ktup.key x).map V.int))) : Z.D K Ho (.ref p) x := by
  show Dq K Ho (.ref p) (toPy x)
  rw [Ktup.py]
  exact .tup h ints_dl
end
/-! ## what stood for good is one's own again -/
section
variable {K : PySem.W.Frag} {H Ho H' Ho' : Hp} {R g : Grp} {v v0 v1 : V} {Q : VK} {α β γ : Type} [Py α] {Φ : γ → Prop}
def Thin (Ho Ho2 : Hp) : Prop := ∀ b vs, Ho b = some (.tup vs) → Ho2 b = some (.tup vs)
class DThin (α : Type) [Py α] : Prop where
  th : ∀ {K : PySem.W.Frag} {Ho Ho2 : Hp} {v : V} {x : α}, Z.D K Ho v x → Thin Ho Ho2 → Z.D K Ho2 v x
instance : DThin Int := ⟨fun d _ => by rw [d_int d]; exact .int _⟩
instance (priority := low) {α : Type} [Py α] [Ktup α] : DThin α := ⟨fun d t => by
  obtain ⟨p, rfl, hp⟩ := tup_at d
  exact at_tup (t _ _ hp)⟩
end
end Z
/-! # list(x), x a tuple of ints -/
namespace Z
open PySem PySem.Spec PyProof.Rows L2
section
variable {K : PySem.W.Frag} {H Ho : Hp} {R : Grp} {v : V} {Q : VK} {α : Type} [Py α] [Ktup α]
theorem ints_dlK : ∀ {ys : List Int}, DL K Ho (ys.map V.int) ys := fun {ys} => ints_dl
theorem y_listT {x : α} {ys : List Int} (e : Ktup.key x = ys) (d : Z.D K Ho v x) (z : Zs R H Ho) (k : ∀ H' p ws, Zs ((p, .lst ws) :: R) H' Ho → DL K Ho ws ys → Q (.ref p) H') : rListZ K [v] H Q := by
  obtain ⟨p, rfl, hp⟩ := tup_at d
  rw [e] at hp
  exact ⟨p, _, rfl, .inr (SqT.of (z.le _ _ hp)), fun l hl => k _ l _ (z.root hl) ints_dlK⟩
end
end Z
/-! # lambdas (1): objects known as they are; roots shown to a call and hidden again -/
namespace Z
open PySem PySem.Spec PyProof.Rows L2
/-- an object known as it is -/
def XO (a : Addr) (o : Obj) : HO := .frz o (.ext fun h => h.get? a = some o)
section
variable {P : Program} {w : World} {K : PySem.W.Frag} {mg : Str → Option Value} {base : Heap} {H H' Ho Ho' : Hp} {h h' : Heap} {a b : Addr} {o : Obj} {u : HO} {g R : Grp}
theorem xo_ok (e : h.get? a = some o) : ObjOk P w H h a (XO a o) := ⟨e, e, ⟨o, e⟩, fun _ _ e1 k => k o e1⟩
theorem xo_get (x : ObjOk P w H h a (XO a o)) : h.get? a = some o := x.1
theorem xo_nt : NotTup (XO a o) := True.intro
theorem xo_tup {xs : List V} : XO a o ≠ .tup xs := fun e => by unfold XO at e; cases e
theorem xo_own {x : Addr} : XO a o ≠ .own x := fun e => by unfold XO at e; cases e
theorem xo_tbl {ps : Array Value} : XO a o ≠ .tbl ps := fun e => by unfold XO at e; cases e
/-- a group of objects known as they are -/
def XG (g : Grp) : Prop := (g.map (·.1)).Nodup ∧ ∀ r ∈ g, ∃ o, r.2 = XO r.1 o
def hideG (H : Hp) (g : Grp) : Hp := fun b => if b ∈ g.map (·.1) then none else H b
def showG (H : Hp) (g : Grp) : Hp := fun b => if b ∈ g.map (·.1) then g.lookup b else H b
theorem hide_in (m : b ∈ g.map (·.1)) : hideG H g b = none := if_pos m
theorem hide_out (m : b ∉ g.map (·.1)) : hideG H g b = H b := if_neg m
theorem show_out (m : b ∉ g.map (·.1)) : showG H g b = H b := if_neg m
theorem lookup_nd : ∀ {g : Grp}, (g.map (·.1)).Nodup → ∀ {r : Addr × HO}, r ∈ g → g.lookup r.1 = some r.2
  | [], _, r, hr => nomatch hr
  | q :: g, nd, r, hr => by
    rw [List.map_cons] at nd
    obtain ⟨n1, n2⟩ := List.nodup_cons.mp nd
    rw [List.lookup_cons]
    rcases List.mem_cons.mp hr with e | e
    · subst e
      rw [beq_self_eq_true]
    · have ne : (r.1 == q.1) = false := beq_eq_false_iff_ne.mpr fun z => n1 (by rw [← z]; exact List.mem_map.mpr ⟨r, e, rfl⟩)
      rw [ne]
      exact lookup_nd n2 e
theorem show_in (x : XG g) {r : Addr × HO} (m : r ∈ g) : showG H g r.1 = some r.2 := by
  unfold showG
  rw [if_pos (List.mem_map.mpr ⟨r, m, rfl⟩)]
  exact lookup_nd x.1 m
theorem show_ex (x : XG g) (m : b ∈ g.map (·.1)) : ∃ o, (b, XO b o) ∈ g ∧ showG H g b = some (XO b o) := by
  obtain ⟨r, hr, rfl⟩ := List.mem_map.mp m
  obtain ⟨o, e⟩ := x.2 r hr
  refine ⟨o, by rw [← e]; exact hr, ?_⟩
  rw [show_in x hr, e]
/-- the objects stand, unknown so far -/
structure XIn (H : Hp) (h : Heap) (g : Grp) : Prop where
  xg : XG g
  fr : ∀ b ∈ g.map (·.1), H b = none
  at_ : ∀ b o, (b, XO b o) ∈ g → h.get? b = some o
theorem XIn.hok (x : XIn H h g) (k : HOk P w H h) : HOk P w (showG H g) h := by
  intro b u e
  by_cases m : b ∈ g.map (·.1)
  · obtain ⟨o, hm, es⟩ := show_ex (H := H) x.xg m
    rw [es] at e
    cases e
    exact xo_ok (x.at_ b o hm)
  · rw [show_out m] at e
    refine (k b u e).stay (fun _ _ _ z => z) (fun c z => ?_) (fun c xs z => ?_)
    · rw [show_out fun y => by rw [x.fr c y] at z; cases z]; exact z
    · rw [show_out fun y => by rw [x.fr c y] at z; cases z]; exact z
theorem XIn.env0 {A : Around} {outer : List Env} {s : Shared} (x : XIn H s.heap g) (e : Env0 P w K mg base A outer s H) (nb : ∀ b ∈ g.map (·.1), base.get? b = none) (nf : ∀ b ∈ g.map (·.1), b ∉ frs outer) : Env0 P w K mg base A outer s (showG H g) :=
  ⟨e.frames, e.mod, fun b o q => ⟨(e.bs b o q).1, by rw [show_out fun m => by rw [nb b m] at q; cases q]; exact (e.bs b o q).2⟩, e.bsz, e.funs, fun b q => by rw [show_out fun m => nf b m q]; exact e.frf b q, x.hok e.hok, e.bare⟩
theorem hide_hok (x : XG g) (ii : ∀ r ∈ g, H r.1 = some r.2) (k : HOk P w H h) : HOk P w (hideG H g) h := by
  have gi : ∀ {b u}, H b = some u → (∀ o, u ≠ XO b o) → b ∉ g.map (·.1) := fun {b u} e n m => by
    obtain ⟨r, hr, rfl⟩ := List.mem_map.mp m
    obtain ⟨o, eo⟩ := x.2 r hr
    rw [ii r hr] at e
    exact n o ((Option.some.inj e).symm.trans eo)
  intro b u e
  by_cases m : b ∈ g.map (·.1)
  · rw [hide_in m] at e; cases e
  · rw [hide_out m] at e
    refine (k b u e).stay (fun _ _ _ z => z) (fun c z => ?_) (fun c xs z => ?_)
    · rw [hide_out (gi z fun o y => xo_own y.symm)]; exact z
    · rw [hide_out (gi z fun o y => xo_tup y.symm)]; exact z
/-- behind the call -/
theorem XIn.ce {outer : List Env} {s s' : Shared} {Q : VK} {v : Value} (x : XIn H s.heap g) (c : CE outer P w (showG H g) s (fun v H' => (∀ r ∈ g, H' r.1 = some r.2) → Q v (hideG H' g)) v s') : CE outer P w H s Q v s' := by
  obtain ⟨y, H', os, bare, un, hok, rv, q⟩ := c
  have ii : ∀ r ∈ g, H' r.1 = some r.2 := fun r hr => by
    obtain ⟨o, eo⟩ := x.xg.2 r hr
    have := show_in (H := H) x.xg hr
    rw [eo] at this ⊢
    exact un.frzs _ _ _ this
  have it : ∀ b, b ∈ g.map (·.1) → ∃ o, s.heap.get? b = some o ∧ s'.heap.get? b = some o := fun b m => by
    obtain ⟨o, hm, _⟩ := show_ex (H := H) x.xg m
    exact ⟨o, x.at_ b o hm, xo_get (hok b _ (ii _ hm))⟩
  have no : ∀ {b u}, H b = some u → b ∉ g.map (·.1) := fun {b u} e m => by rw [x.fr b m] at e; cases e
  refine ⟨y, hideG H' g, os, bare, ⟨fun b o e n hf hx => ?_, fun b o e n hf hx => ?_, fun b o e n hx => ?_, fun b o e hx => un.there b o e hx, fun b xs e => ?_, fun b o z e => ?_, fun b ps e => ?_⟩, hide_hok x.xg ii hok, rv, q ii⟩
  · by_cases m : b ∈ g.map (·.1)
    · obtain ⟨o', e1, e2⟩ := it b m
      rw [e] at e1; cases e1
      exact e2
    · exact un.keep b o e (by rw [show_out m]; exact n) hf hx
  · by_cases m : b ∈ g.map (·.1)
    · obtain ⟨o', e1, e2⟩ := it b m
      rw [e] at e1; cases e1
      exact ⟨o.slots, e2⟩
    · exact un.slot b o e (by rw [show_out m]; exact n) hf hx
  · by_cases m : b ∈ g.map (·.1)
    · exact hide_in m
    · rw [hide_out m]
      exact un.free b o e (by rw [show_out m]; exact n) hx
  · rw [hide_out (no e)]
    exact un.tups b xs (by rw [show_out (no e)]; exact e)
  · rw [hide_out (no e)]
    exact un.frzs b o z (by rw [show_out (no e)]; exact e)
  · rw [hide_out (no e)]
    exact un.tbls b ps (by rw [show_out (no e)]; exact e)
/-- behind the call: an error -/
theorem XIn.cx {outer : List Env} {s s' : Shared} {E : XK} {v : Value} (x : XIn H s.heap g) (c : L2.CX P w outer (showG H g) s (fun cls d H' => (∀ r ∈ g, H' r.1 = some r.2) → E cls d (hideG H' g)) v s') : L2.CX P w outer H s E v s' := by
  obtain ⟨a, B, H', cls, d, ev, fl, hok, un, na, os, bare, q⟩ := c
  have ii : ∀ r ∈ g, H' r.1 = some r.2 := fun r hr => by
    obtain ⟨o, eo⟩ := x.xg.2 r hr
    have := show_in (H := H) x.xg hr
    rw [eo] at this ⊢
    exact un.frzs _ _ _ this
  have it : ∀ b, b ∈ g.map (·.1) → ∃ o, s.heap.get? b = some o ∧ B.get? b = some o := fun b m => by
    obtain ⟨o, hm, _⟩ := show_ex (H := H) x.xg m
    exact ⟨o, x.at_ b o hm, xo_get (hok b _ (ii _ hm))⟩
  have no : ∀ {b u}, H b = some u → b ∉ g.map (·.1) := fun {b u} e m => by rw [x.fr b m] at e; cases e
  refine ⟨a, B, hideG H' g, cls, d, ev, fl, hide_hok x.xg ii hok, ⟨fun b o e n hf => ?_, un.slot, fun b o e n => ?_, un.there, fun b xs e => ?_, fun b o z e => ?_, fun b ps e => ?_⟩, ?_, os, bare, q ii⟩
  · by_cases m : b ∈ g.map (·.1)
    · obtain ⟨o', e1, e2⟩ := it b m
      rw [e] at e1; cases e1
      exact e2
    · exact un.keep b o e (by rw [show_out m]; exact n) hf
  · by_cases m : b ∈ g.map (·.1)
    · exact hide_in m
    · rw [hide_out m]
      exact un.free b o e (by rw [show_out m]; exact n)
  · rw [hide_out (no e)]
    exact un.tups b xs (by rw [show_out (no e)]; exact e)
  · rw [hide_out (no e)]
    exact un.frzs b o z (by rw [show_out (no e)]; exact e)
  · rw [hide_out (no e)]
    exact un.tbls b ps (by rw [show_out (no e)]; exact e)
  · by_cases m : a ∈ g.map (·.1)
    · exact hide_in m
    · rw [hide_out m]; exact na
/-! ## roots -/
theorem _root_.Z.Zs.show (z : Zs R H Ho) (x : XG g) (fr : ∀ b ∈ g.map (·.1), H b = none) : Zs (g ++ R) (showG H g) Ho := by
  have no : ∀ {b u}, H b = some u → b ∉ g.map (·.1) := fun {b u} e m => by rw [fr b m] at e; cases e
  refine ⟨fun b u e => ?_, fun r hr => ?_, ?_, fun r hr => ?_⟩
  · have := z.le b u e
    rw [show_out (no this)]; exact this
  · rcases List.mem_append.mp hr with m | m
    · exact ⟨show_in x m, z.free (fr _ (List.mem_map.mpr ⟨r, m, rfl⟩))⟩
    · obtain ⟨h1, h2⟩ := z.rt r m
      exact ⟨by rw [show_out (no h1)]; exact h1, h2⟩
  · rw [List.map_append, List.nodup_append]
    refine ⟨x.1, z.nd, fun a ha c hc e => ?_⟩
    subst e
    obtain ⟨r, hr, rfl⟩ := List.mem_map.mp hc
    exact no (z.rt r hr).1 ha
  · rcases List.mem_append.mp hr with m | m
    · obtain ⟨o, e⟩ := x.2 r m
      rw [e]; exact xo_nt
    · exact z.nt r m
theorem _root_.Z.Zs.hide (z : Zs (g ++ R) H Ho) : Zs R (hideG H g) Ho := by
  have nd := z.nd
  rw [List.map_append, List.nodup_append] at nd
  refine ⟨fun b u e => ?_, fun r hr => ?_, nd.2.1, fun r hr => z.nt r (List.mem_append_right _ hr)⟩
  · have m : b ∉ g.map (·.1) := fun m => by
      obtain ⟨r, hr, rfl⟩ := List.mem_map.mp m
      rw [(z.rt r (List.mem_append_left _ hr)).2] at e; cases e
    rw [hide_out m]
    exact z.le b u e
  · obtain ⟨h1, h2⟩ := z.rt r (List.mem_append_right _ hr)
    have m : r.1 ∉ g.map (·.1) := fun m => nd.2.2 _ m _ (List.mem_map.mpr ⟨r, hr, rfl⟩) rfl
    exact ⟨by rw [hide_out m]; exact h1, h2⟩
theorem _root_.Z.Zs.known (z : Zs (g ++ R) H Ho) : ∀ r ∈ g, H r.1 = some r.2 := fun r hr => (z.rt r (List.mem_append_left _ hr)).1
end
end Z
/-! # lambdas (2): made, and called -/
namespace Z
open PySem PySem.Spec PyProof.Rows L2
def laP : Expr → Arguments | .Lambda (args := p) .. => p | _ => default
def laY : Expr → Expr | .Lambda (body := b) .. => b | e => e
def laS : Expr → Scope | .Lambda (scope := s) .. => s | _ => default
def laE : Stmt → Expr | .Expr (value := e) .. => e | .Assign (value := e) .. => e | .For (iter := e) .. => e | _ => .Name "" ⟨0, 0, 0, 0⟩
def laB : Stmt → List Stmt | .Try (body := b) .. => b | .For (body := b) .. => b | .If (body := b) .. => b | .While (body := b) .. => b | _ => []
def laA (i : Nat) : Expr → Expr | .Call (args := l) .. => l.getD i (.Name "" ⟨0, 0, 0, 0⟩) | e => e
abbrev lamB (q : Str) (params : Arguments) (body : Expr) (scope : Scope) (cl : List (Str × Addr)) (pm : Value) (c' : Addr) (ctv : Value) : Obj := PySem.W.kla_obj "<lambda>" q params body scope cl pm c' ctv
/-- a table whose code objects stand and bear the name q -/
def TabI (q : Str) (ps : Array Value) (Ho : Hp) : Prop := TriplesOk ps.toList ∧ ∀ (p : Pos) (cv : Value), codeAmong p ps.toList = some cv → ∃ c, cv = .ref c ∧ Ho c = some (LamX.CodeO c q)
theorem TabI.mo {q : Str} {ps : Array Value} {Ho Ho' : Hp} (t : TabI q ps Ho) (e : Same Ho Ho') : TabI q ps Ho' := ⟨t.1, fun p cv h => by
  obtain ⟨c, e1, e2⟩ := t.2 p cv h
  exact ⟨c, e1, e _ _ e2⟩⟩
/-- what the making of a lambda leaves -/
inductive Made (H : Hp) (P : Addr) (ps : Array Value) (q : Str) (f c' : Addr) (o : Obj) : Hp → Array Value → Prop
  | new {ps' : Array Value} (nc : H c' = none) (nf : H f = none) (ne : f ≠ c') (tr : TriplesOk ps'.toList) (am : ∀ (p : Pos) (cv : Value), codeAmong p ps'.toList = some cv → codeAmong p ps.toList = some cv ∨ cv = .ref c') : Made H P ps q f c' o (upd (upd (upd H P (.tbl ps')) c' (LamX.CodeO c' q)) f (XO f o)) ps'
  | hit (nf : H f = none) (p : Pos) (am : codeAmong p ps.toList = some (.ref c')) : Made H P ps q f c' o (upd H f (XO f o)) ps
def tLamE (P : Addr) (q : Str) (params : Arguments) (body : Expr) (scope : Scope) (cells : List (Str × Addr)) : TE := fun σ H Q => ∃ ps : Array Value, H P = some (.tbl ps) ∧ TabI q ps H ∧
  ∀ (f c' : Addr) (pm ctv : Value) (ps' : Array Value) (H' : Hp), Made H P ps q f c' (lamB q params body scope (cloFrom cells scope.names []) pm c' ctv) H' ps' → Q (.ref f) H'
/-- what a lambda captures is a cell of its maker -/
def lamFB (lsc sc : Scope) : Bool := lsc.names.all fun y => !decide (y.2 = NameKind.free) || decide (sc.names.lookup y.1 = some .cell)
/-- lambda ..: .. -/
theorem pe_lamE {X : Cx} {q : Str} {cells : List (Str × Addr)} {c P : Addr} {params : Arguments} {body : Expr} {scope : Scope} {pos : Pos} (TB : LamX.TabB X.base X.mg c P) (hcode : X.env.code = .ref c) (hdef : defaultsOf params X.env = ([], []))
    (hcap : lamFB scope X.env.scope = true) (hq : X.env.qual ++ "<lambda>" = q) (hcl : X.env.cells = cells) : PE X (.Lambda params body scope pos) (tLamE P q params body scope cells) := by
  subst hq
  subst hcl
  refine ⟨fun pins s σ H Q I hh => ?_⟩
  obtain ⟨ps, hP, ⟨tr, am⟩, k⟩ := hh
  have hfree : ∀ y ∈ scope.names, y.2 = .free → ∃ c, X.env.cells.lookup y.1 = some c := fun y hy e => by
    have := List.all_eq_true.mp hcap y hy
    rw [e] at this
    simp only [decide_true, Bool.not_true, Bool.false_or, decide_eq_true_eq] at this
    exact I.ok.has _ (.inl this)
  have blt : s.heap.BuiltinsAt X.mg P := TB.bm.keeps I.bk
  have tab : s.heap.get? P = some { cls := .none, data := .fields ps } := I.hok P _ hP
  refine PySem.W.kla_eval hdef ?_
  cases ca : codeAmong pos ps.toList with
  | some cv =>
    obtain ⟨c', rfl, hco⟩ := am pos cv ca
    refine PySem.W.kla_makeFunctionHit (c := c) (P := P) (mg := X.mg) (ps := ps) (closure_ok hfree) I.ok.glob (I.mod.glob.keeps I.bk) hcode (TB.code.keeps I.bk) tab tr ca blt fun ctv h' tk kp sz => ?_
    refine ⟨.ref h'.objs.size, _, I.laid (a := h'.objs.size) (o := XO h'.objs.size (lamB (X.env.qual ++ "<lambda>") params body scope (cloFrom X.env.cells scope.names []) ((X.mg "__name__").getD .none) c' ctv)) (t' := tk) (fun b o e => Heap.get?_push_of_some _ (kp b o e)) sz (xo_ok (Heap.get?_push_size _ rfl)), rfl, ?_⟩
    exact k _ c' _ _ ps _ (.hit (I.hok.fresh sz) pos ca)
  | none =>
    refine PySem.W.kla_makeFunction (c := c) (P := P) (mg := X.mg) (ps := ps) (closure_ok hfree) I.ok.glob (I.mod.glob.keeps I.bk) hcode (TB.code.keeps I.bk) tab tr ca TB.gP blt fun c' ctv h' tk xb ge lt rc tb2 => ?_
    obtain ⟨c2, oc, vs, t, e2, g1, g2, g3⟩ := rc
    cases e2
    have sz : s.heap.objs.size ≤ h'.objs.size := Nat.le_trans ge (Nat.le_of_lt lt)
    have J := LamX.inv_table (t' := tk) (q := X.env.qual ++ "<lambda>") (more := #[rawInt pos.line, rawInt pos.col, .ref c']) (h' := h') I hP (fun b o nb e => xb b o nb e) tb2 ge ⟨oc, vs, t, g1, g2, g3⟩
    refine ⟨.ref h'.objs.size, _, J.laid (a := h'.objs.size) (o := XO h'.objs.size (lamB (X.env.qual ++ "<lambda>") params body scope (cloFrom X.env.cells scope.names []) ((X.mg "__name__").getD .none) c' ctv)) (t' := tk) (fun b o e => Heap.get?_push_of_some _ e) (Nat.le_refl _) (xo_ok (Heap.get?_push_size _ rfl)), rfl, ?_⟩
    have el : (ps ++ #[rawInt pos.line, rawInt pos.col, .ref c']).toList = ps.toList ++ [rawInt pos.line, rawInt pos.col, .ref c'] := by simp
    refine k _ c' _ _ _ _ (.new (I.hok.fresh ge) (I.hok.fresh sz) (Nat.ne_of_gt lt) ?_ fun p cv hc => ?_)
    · rw [el]
      exact PySem.TriplesOk_snoc _ _ _ _ tr
    · rw [el] at hc
      exact LamX.among_app _ tr hc
section
variable {K : PySem.W.Frag} {H Ho Ho' : Hp} {R g : Grp} {P f c' : Addr} {ps : Array Value} {q : Str} {σ : L2.St} {Q : VK} {params : Arguments} {body : Expr} {scope : Scope} {cells cl : List (Str × Addr)} {v : V}
/-- the lambda that stands at f -/
def LamF (q : Str) (params : Arguments) (body : Expr) (scope : Scope) (cl : List (Str × Addr)) (H : Hp) (f : Addr) : Prop := ∃ (c' : Addr) (pm ctv : Value), H f = some (XO f (lamB q params body scope cl pm c' ctv)) ∧ H c' = some (LamX.CodeO c' q)
theorem LamF.mo (h : LamF q params body scope cl Ho f) (e : Same Ho Ho') : LamF q params body scope cl Ho' f := by
  obtain ⟨c', pm, ctv, h1, h2⟩ := h
  exact ⟨c', pm, ctv, e _ _ h1, e _ _ h2⟩
/-- the table of a def that makes lambdas, one's own -/
def OTab (P : Addr) (q : Str) (K : PySem.W.Frag) (Ho : Hp) (v : V) (x : Unit) (g : Grp) : Prop := ∃ ps : Array Value, g = [(P, .tbl ps)] ∧ TabI q ps Ho
theorem OTab.mo {x : Unit} (h : OTab P q K Ho v x g) (e : Same Ho Ho') : OTab P q K Ho' v x g := by
  obtain ⟨ps, h1, h2⟩ := h
  exact ⟨ps, h1, h2.mo e⟩
theorem y_lamE {x : Unit} (z : Zs (g ++ R) H Ho) (T : OTab P q K Ho v x g)
    (k : ∀ f H' Ho' g', Same Ho Ho' → Zs (g' ++ R) H' Ho' → OTab P q K Ho' v () g' → LamF q params body scope (cloFrom cells scope.names []) Ho' f → Q (.ref f) H') : tLamE P q params body scope cells σ H Q := by
  obtain ⟨ps, rfl, T⟩ := T
  have hP := (z.rt _ List.mem_cons_self).1
  refine ⟨ps, hP, T.mo z.le, fun f c' pm ctv ps' H' m => ?_⟩
  cases m with
  | new nc nf ne tr am =>
    have z1 : Zs ((P, HO.tbl ps') :: R) (upd H P (.tbl ps')) Ho := z.put True.intro
    have c1 : upd H P (.tbl ps') c' = none := by rw [upd_ne (fun e => by rw [e] at nc; rw [hP] at nc; cases nc)]; exact nc
    have z2 := z1.alloc (o := LamX.CodeO c' q) c1
    have f2 : upd (upd H P (.tbl ps')) c' (LamX.CodeO c' q) f = none := by rw [upd_ne ne, upd_ne (fun e => by rw [e] at nf; rw [hP] at nf; cases nf)]; exact nf
    have z3 := z2.alloc (o := XO f (lamB q params body scope (cloFrom cells scope.names []) pm c' ctv)) f2
    have s1 : Same Ho (upd Ho c' (LamX.CodeO c' q)) := fun b o e => by rw [upd_ne (fun y => by rw [y, z1.free c1] at e; cases e)]; exact e
    have s2 : Same (upd Ho c' (LamX.CodeO c' q)) (upd (upd Ho c' (LamX.CodeO c' q)) f (XO f (lamB q params body scope (cloFrom cells scope.names []) pm c' ctv))) := fun b o e => by rw [upd_ne (fun y => by rw [y, z2.free f2] at e; cases e)]; exact e
    refine k f _ _ [(P, .tbl ps')] (s1.trans s2) z3 ⟨ps', rfl, tr, fun p cv hc => ?_⟩ ⟨c', pm, ctv, upd_same, s2 _ _ upd_same⟩
    rcases am p cv hc with y | y
    · obtain ⟨c, e1, e2⟩ := T.2 p cv y
      exact ⟨c, e1, s2 _ _ (s1 _ _ e2)⟩
    · exact ⟨c', y, s2 _ _ upd_same⟩
  | hit nf p am =>
    have z1 := z.alloc (o := XO f (lamB q params body scope (cloFrom cells scope.names []) pm c' ctv)) nf
    have s1 : Same Ho (upd Ho f (XO f (lamB q params body scope (cloFrom cells scope.names []) pm c' ctv))) := fun b o e => by rw [upd_ne (fun y => by rw [y, z.free nf] at e; cases e)]; exact e
    obtain ⟨c, e1, e2⟩ := T.2 p _ am
    cases e1
    exact k f _ _ [(P, .tbl ps)] s1 z1 ⟨ps, rfl, T.mo s1⟩ ⟨c', pm, ctv, upd_same, s1 _ _ e2⟩
end
/-! ## a lambda's own frame -/
structure LamSc (ps cs : List Str) (scope : Scope) : Prop where
  kind : scope.kind = .function
  co : scope.isCoroutine = false
  gen : scope.isGenerator = false
  nd : (ps ++ cs).Nodup
  par : ∀ x ∈ ps, scope.names.lookup x = some .local
  nocell : ∀ y ∈ scope.names, y.2 ≠ .cell
  free : ∀ y ∈ scope.names, y.2 = .free → y.1 ∈ cs
  fr : ∀ x ∈ cs, scope.names.lookup x = some .free
abbrev lamN (q : Str) (scope : Scope) (L f c' : Addr) (cl : List (Str × Addr)) : Env := PySem.W.envX q scope L f (.ref c') cl
/-- the context of a lambda's body -/
def lamX (P : Program) (w : World) (K : PySem.W.Frag) (mg : Str → Option Value) (base : Heap) (N : List Str) (q : Str) (scope : Scope) (f c' : Addr) (cl : List (Str × Addr)) (A : Around) (outer : List Env) (s : Shared) (H : Hp) : Cx where
  prog := P
  w := w
  K := K
  mg := mg
  base := base
  A := A.deeper (lamN q scope s.heap.objs.size f c' cl)
  N := N
  s_0 := s
  H_0 := H
  env := lamN q scope s.heap.objs.size f c' cl
  outer := outer
  stack := lamN q scope s.heap.objs.size f c' cl :: outer
  ex := []
  fn := fun _ => false
  calm := true
  pn := []
  xe := fun _ _ => False
/-- a lambda, by what its body does -/
structure LamOk (P : Program) (w : World) (K : PySem.W.Frag) (mg : Str → Option Value) (base : Heap) (k : Nat) (q : Str) (params : Arguments) (body : Expr) (scope : Scope) (ps cs : List Str) (sp : Sp) : Prop where
  sc : LamSc ps cs scope
  len : ∀ vs H Q E, sp vs H Q E → vs.length = (ps ++ cs).length
  bind : ∀ (cl : List (Str × Addr)) (pm cv ctv : Value) (us : List Value), us.length = ps.length → bindArgs (PySem.W.kla_fn "<lambda>" q params body scope cl pm cv ctv) ⟨us, []⟩ = pure (ps.zip us)
  run : ∀ (A : Around) (outer : List Env) (s : Shared) (H : Hp) (f c' : Addr) (cl : List (Str × Addr)) (vs : List V) (Q : VK), Room k (A.deeper (lamN q scope s.heap.objs.size f c' cl)) → sp vs H Q C8.E0 →
    ∃ t, PE (lamX P w K mg base (ps ++ cs) q scope f c' cl A outer s H) body t ∧ t (L2.start (ps ++ cs) vs) H Q
/-- the cells that a lambda has captured -/
structure Caps (cl : List (Str × Addr)) (cs : List Str) (cvs : List V) (g : Grp) : Prop where
  xg : XG g
  at_ : ∀ (i : Nat) (y : Str), cs[i]? = some y → ∃ (c : Addr) (o : Obj) (u : Value) (v : V), cl.lookup y = some c ∧ g[i]? = some (c, XO c o) ∧ o.data = .cell (some u) ∧ cvs[i]? = some v ∧ RelV v u
  only : ∀ y c, cl.lookup y = some c → y ∈ cs
  vl : cvs.length = cs.length
section
variable {P : Program} {w : World} {K : PySem.W.Frag} {mg : Str → Option Value} {base : Heap} {H H' : Hp} {g : Grp} {A : Around} {outer : List Env} {s : Shared} {k : Nat} {q : Str} {params : Arguments} {body : Expr} {scope : Scope} {ps cs : List Str} {sp : Sp} {cl : List (Str × Addr)} {cvs vs : List V} {us : List Value} {f c' : Addr} {pm ctv : Value} {Q : VK}
theorem XG.env0 (x : XG g) (ii : ∀ r ∈ g, H r.1 = some r.2) (e : Env0 P w K mg base A outer s H) : Env0 P w K mg base A outer s (hideG H g) := by
  have no : ∀ {b}, H b = none → hideG H g b = none := fun {b} n => by
    by_cases m : b ∈ g.map (·.1)
    · exact hide_in m
    · rw [hide_out m]; exact n
  exact ⟨e.frames, e.mod, fun b o z => ⟨(e.bs b o z).1, no (e.bs b o z).2⟩, e.bsz, e.funs, fun b z => no (e.frf b z), hide_hok x ii e.hok, e.bare⟩
theorem look_in : ∀ {l : List (Str × Value)}, (l.map (·.1)).Nodup → ∀ {r : Str × Value}, r ∈ l → l.lookup r.1 = some r.2
  | [], _, r, hr => nomatch hr
  | p :: l, nd, r, hr => by
    rw [List.map_cons] at nd
    obtain ⟨n1, n2⟩ := List.nodup_cons.mp nd
    rw [List.lookup_cons]
    rcases List.mem_cons.mp hr with e | e
    · subst e
      rw [beq_self_eq_true]
    · have ne : (r.1 == p.1) = false := beq_eq_false_iff_ne.mpr fun z => n1 (by rw [← z]; exact List.mem_map.mpr ⟨r, e, rfl⟩)
      rw [ne]
      exact look_in n2 e
theorem lam_inv (S : LamSc ps cs scope) (C : Caps cl cs cvs g) (e0 : Env0 P w K mg base A outer s H) (ii : ∀ r ∈ g, H r.1 = some r.2) (hd : A.handled = none) (r : Vals vs us) (hl : vs.length = ps.length) {h₁ : Heap} {tk : Nat}
    (hns : h₁.Ns s.heap.objs.size fun y => (ps.zip us).reverse.lookup y) (kp : ∀ b o, s.heap.get? b = some o → h₁.get? b = some o) :
    Inv (lamX P w K mg base (ps ++ cs) q scope f c' cl A outer s (hideG H g)) [] (L2.start (ps ++ cs) (vs ++ cvs)) (hideG H g) { s with heap := h₁, toks := tk } := by
  have e1 := C.xg.env0 ii e0
  have noA : ∀ b : Addr, b ∉ (lamX P w K mg base (ps ++ cs) q scope f c' cl A outer s (hideG H g)).ex := fun b z => absurd (show b ∈ ([] : List Addr) from z) (by simp)
  have cellAt : ∀ {i : Nat} {y : Str}, cs[i]? = some y → ∃ (c : Addr) (o : Obj) (u : Value) (v : V), cl.lookup y = some c ∧ g[i]? = some (c, XO c o) ∧ h₁.get? c = some o ∧ o.data = .cell (some u) ∧ cvs[i]? = some v ∧ RelV v u := fun {i y} e => by
    obtain ⟨c, o, u, v, a1, a2, a3, a4, a5⟩ := C.at_ i y e
    exact ⟨c, o, u, v, a1, a2, kp _ _ (xo_get (e0.hok c _ (ii _ (List.mem_of_getElem? a2)))), a3, a4, a5⟩
  have inG : ∀ {y : Str} {c : Addr}, cl.lookup y = some c → ∃ (i : Nat) (o : Obj) (u : Value), cs[i]? = some y ∧ g[i]? = some (c, XO c o) ∧ h₁.get? c = some o ∧ o.data = .cell (some u) := fun {y c} e => by
    obtain ⟨i, ei⟩ := List.getElem?_of_mem (C.only y c e)
    obtain ⟨c2, o, u, v, a1, a2, a3, a4, _⟩ := cellAt ei
    rw [e] at a1
    cases a1
    exact ⟨i, o, u, ei, a2, a3, a4⟩
  have gm : ∀ {y : Str} {c : Addr}, cl.lookup y = some c → c ∈ g.map (·.1) := fun {y c} e => by
    obtain ⟨i, o, u, _, a2, _⟩ := inG e
    exact List.mem_map.mpr ⟨_, List.mem_of_getElem? a2, rfl⟩
  refine ⟨⟨e1.mod, S.kind, rfl, rfl, Nat.le_refl _, fun y z c h1 h2 => ?_, fun y hy => ?_, fun y c hf _ => ?_, fun _ => hd, Around.frames_deeper e1.frames, .inr ⟨rfl, rfl⟩, fun b z => absurd z (noA b), e1.bs, e1.bsz, fun b _ _ => noA b, fun b z => absurd z (noA b), e1.funs, e1.frf⟩,
    rfl, e1.bare, Un.kept kp, ⟨_, hns, fun i y v h1 h2 h3 => ?_⟩, fun y c h => ?_, e1.hok.fresh (Nat.le_refl _), fun y c h => hide_in (gm h), fun p hp => absurd (show p ∈ ([] : List (Addr × Obj)) ++ [] from hp) (by simp), e1.hok.kept kp, ?_⟩
  · obtain ⟨i, o, u, a1, a2, _⟩ := inG h1
    obtain ⟨j, o', u', b1, b2, _⟩ := inG h2
    have nd := C.xg.1
    have l1 : (g.map (·.1))[i]? = some c := by rw [List.getElem?_map, a2]; rfl
    have l2 : (g.map (·.1))[j]? = some c := by rw [List.getElem?_map, b2]; rfl
    have e : i = j := (List.getElem?_inj (List.getElem?_eq_some_iff.mp l1).1 nd).mp (l1.trans l2.symm)
    subst e
    rw [a1] at b1
    exact Option.some.inj b1
  · have hy : scope.names.lookup y = some .cell ∨ scope.names.lookup y = some .free := hy
    rcases hy with hy | hy
    · exact absurd rfl (S.nocell _ (PySem.mem_of_lookup hy))
    · obtain ⟨i, ei⟩ := List.getElem?_of_mem (S.free _ (PySem.mem_of_lookup hy) rfl)
      obtain ⟨c, o, u, v, a1, _⟩ := cellAt ei
      exact ⟨c, a1⟩
  · have hf : false = true := hf
    cases hf
  · have h1 : (ps ++ cs)[i]? = some y := h1
    have h2 : (L2.start (ps ++ cs) (vs ++ cvs))[i]? = some (some v) := h2
    have vl := C.vl
    have h2' : (vs ++ cvs)[i]? = some v := by
      unfold L2.start at h2
      by_cases hi : i < (vs ++ cvs).length
      · rw [List.getElem?_append_left (by simpa using hi), List.getElem?_map] at h2
        cases e : (vs ++ cvs)[i]? with
        | none => rw [e] at h2; cases h2
        | some a => rw [e] at h2; cases h2; rfl
      · rw [List.getElem?_append_right (by simpa using hi), List.getElem?_replicate] at h2
        split at h2 <;> cases h2
    by_cases c : i < ps.length
    · rw [List.getElem?_append_left c] at h1
      rw [List.getElem?_append_left (by omega)] at h2'
      obtain ⟨u, hu, rv⟩ := r.get h2'
      refine ⟨u, rv, .inl ⟨S.par y (List.mem_of_getElem? h1), ?_⟩⟩
      have ul : us.length = ps.length := by rw [← r.length]; exact hl
      have zm : (y, u) ∈ (ps.zip us).reverse := List.mem_reverse.mpr (List.mem_iff_getElem?.mpr ⟨i, by rw [List.getElem?_zip_eq_some]; exact ⟨h1, hu⟩⟩)
      have kn : (((ps.zip us).reverse).map (·.1)).Nodup := by
        rw [List.map_reverse, List.map_fst_zip (by omega)]
        exact (List.reverse_perm _).nodup_iff.mpr (List.nodup_append.mp S.nd).1
      exact look_in kn zm
    · rw [List.getElem?_append_right (by omega)] at h1
      rw [List.getElem?_append_right (by omega), hl] at h2'
      obtain ⟨cc, o, u, v', a1, a2, a3, a4, a5, a6⟩ := cellAt h1
      rw [h2'] at a5
      cases a5
      exact ⟨u, a6, .inr ⟨.inr (S.fr y (List.mem_of_getElem? h1)), cc, a1, o, a3, a4⟩⟩
  · obtain ⟨i, o, u, _, _, a3, a4⟩ := inG h
    exact ⟨_, o, a3, a4⟩
  · show (L2.start (ps ++ cs) (vs ++ cvs)).length = (ps ++ cs).length
    have vl := C.vl
    unfold L2.start
    rw [List.length_append, List.length_map, List.length_replicate]
    simp only [List.length_append]
    omega
theorem lam_run (L : LamOk P w K mg base k q params body scope ps cs sp) (C : Caps cl cs cvs g) (e0 : Env0 P w K mg base A outer s H) (hr : Room (k + 1) A) (hf : H f = some (XO f (lamB q params body scope cl pm c' ctv))) (hc : H c' = some (LamX.CodeO c' q)) (ii : ∀ r ∈ g, H r.1 = some r.2)
    (r : Vals vs us) (hs : sp (vs ++ cvs) (hideG H g) (fun v H' => (∀ b ∈ g.map (·.1), H' b = none) → Q v (showG H' g)) C8.E0) :
    codeAny (model P w) A (.call (.ref f) ⟨us, []⟩) (CR C8.CX0 outer P w H s Q C8.E0) s := by
  have hl : vs.length = ps.length := by
    have := L.len _ _ _ _ hs
    rw [List.length_append, List.length_append, C.vl] at this
    omega
  have ul : us.length = ps.length := by rw [← r.length]; exact hl
  have of1 := xo_get (e0.hok f _ hf)
  obtain ⟨⟨oc, vs', t, hoc, hdc, hvc⟩, _, _⟩ := e0.hok c' _ hc
  have lim : s.heap.NoLimit := e0.mod.nolimit.keeps fun b o e => (e0.bs b o e).1
  refine PySem.W.kla_callFunE hr.depth of1 rfl L.sc.co L.sc.gen rfl ⟨c', oc, vs', t, rfl, hoc, hdc, hvc⟩ ?_
  rw [L.bind cl pm (.ref c') ctv us ul]
  refine wpAny_pure (wpAny_newFunctionEnv L.sc.nocell (fun y hy => L.sc.par _ (List.of_mem_zip hy).1) (fun h₁ hns sb => ⟨lim.fresh _ sb, ?_⟩) L.sc.kind)
  have kp : ∀ b o, s.heap.get? b = some o → h₁.get? b = some o := fun b o e => sb.extBut b o (Nat.ne_of_lt (Heap.lt_size e)) (Heap.get?_push_of_some _ e)
  have J := lam_inv (q := q) (f := f) (c' := c') (tk := s.toks + (ps.zip us).length) L.sc C e0 ii hr.hd r hl hns kp
  obtain ⟨t, ht, hq⟩ := L.run A outer s (hideG H g) f c' cl (vs ++ cvs) _ (hr.deeper _) hs
  refine PySem.W.kla_codeExpr (wpAny_mono (ht.run [] _ _ (hideG H g) _ J hq) (fun v s' h => ?_) fun e s' h => ?_)
  · obtain ⟨y, H', J', rv, q'⟩ := h
    have un : Un (frs outer) [] (hideG H g) H' s.heap s'.heap := J'.base
    have hok : HOk P w H' s'.heap := J'.hok
    have ob : ∀ {b : Addr}, b ∈ g.map (·.1) → ∃ o, (b, XO b o) ∈ g ∧ H b = some (XO b o) ∧ s.heap.get? b = some o := fun {b} m => by
      obtain ⟨rr, hr', rfl⟩ := List.mem_map.mp m
      obtain ⟨o, eo⟩ := C.xg.2 rr hr'
      have h1 := ii rr hr'
      rw [eo] at h1
      exact ⟨o, by rw [← eo]; exact hr', h1, xo_get (e0.hok _ _ h1)⟩
    have nn : ∀ b ∈ g.map (·.1), H' b = none := fun b m => by
      obtain ⟨o, _, _, e⟩ := ob m
      exact un.free b o e (hide_in m) (by simp)
    have nu : ∀ {b u}, H b = some u → (∀ o, u ≠ XO b o) → b ∉ g.map (·.1) := fun {b u} e n m => by
      obtain ⟨o, _, h1, _⟩ := ob m
      rw [h1] at e
      exact n o (Option.some.inj e).symm
    have no : ∀ {b}, H b = none → b ∉ g.map (·.1) := fun {b} e m => by
      obtain ⟨o, _, h1, _⟩ := ob m
      rw [h1] at e; cases e
    refine ⟨y, showG H' g, J'.os, J'.bare, ⟨fun b o e n hf hx => ?_, fun b o e n hf hx => ?_, fun b o e n hx => ?_, fun b o e hx => un.there b o e hx, fun b xs e => ?_, fun b o z e => ?_, fun b ps e => ?_⟩, XIn.hok ⟨C.xg, nn, fun b o hm => ?_⟩ hok, rv, q' nn⟩
    · exact un.keep b o e (by rw [hide_out (no n)]; exact n) hf hx
    · exact un.slot b o e (by rw [hide_out (no n)]; exact n) hf hx
    · rw [show_out (no n)]
      exact un.free b o e (by rw [hide_out (no n)]; exact n) hx
    · have m := nu e fun o y => xo_tup y.symm
      rw [show_out m]
      exact un.tups b xs (by rw [hide_out m]; exact e)
    · by_cases m : b ∈ g.map (·.1)
      · obtain ⟨o', hm, h1, _⟩ := ob m
        rw [h1] at e
        rw [← Option.some.inj e]
        exact show_in C.xg hm
      · rw [show_out m]
        exact un.frzs b o z (by rw [hide_out m]; exact e)
    · have m := nu e fun o y => xo_tbl y.symm
      rw [show_out m]
      exact un.tbls b ps (by rw [hide_out m]; exact e)
    · have m : b ∈ g.map (·.1) := List.mem_map.mpr ⟨_, hm, rfl⟩
      obtain ⟨o', hm', h1, e⟩ := ob m
      have h2 := ii _ hm
      rw [h1] at h2
      have eo : XO b o' = XO b o := Option.some.inj h2
      have : o' = o := by unfold XO at eo; injection eo
      subst this
      exact un.keep b o' e (hide_in m) (fun z => by rw [e0.frf b z] at h1; cases h1) (by simp)
  · exact False.elim h
end
end Z
/-! # lambdas (3): the rules -/
namespace Z
open PySem PySem.Spec PyProof.Rows L2
/-- what is wanted behind a call whose cells are shown again, or hidden again -/
def ShowK (g : Grp) (Q : VK) : VK := fun v H' => (∀ b ∈ g.map (·.1), H' b = none) → Q v (showG H' g)
def HideK (g : Grp) (Q : VK) : VK := fun v H' => (∀ r ∈ g, H' r.1 = some r.2) → Q v (hideG H' g)
def HideE (g : Grp) (E : XK) : XK := fun cls d H' => (∀ r ∈ g, H' r.1 = some r.2) → E cls d (hideG H' g)
theorem showK {g : Grp} {Q : VK} {v : V} {H : Hp} (h : (∀ b ∈ g.map (·.1), H b = none) → Q v (showG H g)) : ShowK g Q v H := h
theorem hideK {g : Grp} {Q : VK} {v : V} {H : Hp} (h : Q v (hideG H g)) : HideK g Q v H := fun _ => h
theorem hideE {g : Grp} {E : XK} {cls : Value} {d : Option Addr} {H : Hp} (h : E cls d (hideG H g)) : HideE g E cls d H := fun _ => h
/-- a lambda handed in, its cells shown -/
def OLam (q : Str) (params : Arguments) (body : Expr) (scope : Scope) (cs : List Str) (cvs : List V) (K : PySem.W.Frag) (Ho : Hp) (v : V) (x : Unit) (g : Grp) : Prop := ∃ (f : Addr) (cl : List (Str × Addr)), v = .ref f ∧ LamF q params body scope cl Ho f ∧ Caps cl cs cvs g
def tCallLam (i : Nat) (q : Str) (params : Arguments) (body : Expr) (scope : Scope) (cs : List Str) (sp : Sp) (t : TA) : TE := fun σ H Q => ∃ f : Addr, σ[i]? = some (some (.ref f)) ∧ (∃ cl, LamF q params body scope cl H f) ∧ t σ H fun vs H1 => ∃ (cl : List (Str × Addr)) (cvs : List V) (g : Grp),
  LamF q params body scope cl H1 f ∧ Caps cl cs cvs g ∧ (∀ r ∈ g, H1 r.1 = some r.2) ∧ sp (vs ++ cvs) (hideG H1 g) (ShowK g Q) C8.E0
/-- the calls of a def to which a lambda is handed: its cells are shown -/
def tCallC (cl : List (Str × Addr)) (cs : List Str) (is : List Nat) (sp : Sp) (E : L2.St → XK) (t : TA) : TE := fun σ H Q => t σ H fun vs H1 => ∃ cvs : List V, is.map (fun i => σ[i]?) = cvs.map (fun v => some (some v)) ∧
  ∀ g : Grp, Caps cl cs cvs g → (∀ b ∈ g.map (·.1), H1 b = none) → sp vs (showG H1 g) (HideK g Q) (HideE g (E σ))
section
variable {X : Cx} {CX : CXT} {k i : Nat} {f : Addr} {fd : FuncData} {ps cs : List Str} {is : List Nat} {sp : Sp} {E : XK} {x q : Str} {p pos : Pos} {e : Expr} {es : List Expr} {t : TA} {params : Arguments} {body : Expr} {scope lsc : Scope}
theorem pe_callLam (L : LamOk X.prog X.w X.K X.mg X.base k q params body scope ps cs sp) (hr : Room (k + 1) X.A) (hN : X.N[i]? = some x) (hv : Vis X.env.scope x) (ha : PA X (e :: es) t)
    (hd : (x == ("__debug__" : Str)) = false := by decide) (hcd : (x == ("__classdict__" : Str)) = false := by decide)
    (he : starEach (e :: es) X.env = (false, eval e X.env) :: starEach es X.env := by rfl) (hpl : (backTo pos (starEach es X.env)).any (·.1) = false := by rfl) :
    PE X (.Call (.Name x p) (e :: es) [] pos) (tCallLam i q params body scope cs sp t) := by
  refine ⟨fun pins s σ H Q I h => ?_⟩
  obtain ⟨f, hs, ⟨cl0, c0, pm0, ct0, h0, _⟩, ht⟩ := h
  refine wpAny_Call_Name_kw (thn ((pe_var (pos := p) hN hv hd hcd).run pins s σ H (fun v H1 => v = .ref f ∧ H1 = H) I ⟨.ref f, hs, rfl, rfl⟩) fun u s1 ⟨v, H1, I1, r1, q1⟩ => ?_)
  obtain ⟨rfl, rfl⟩ := q1
  cases r1
  have ex : ∀ {s1 : Shared} {H1 : Hp}, Inv X pins σ H1 s1 → ∀ {cl c' pm ctv}, H1 f = some (XO f (lamB q params body scope cl pm c' ctv)) → PySem.W.FnAt f s1.heap := fun {s1 H1} I1 {cl c' pm ctv} e => ⟨_, _, _, _, xo_get (I1.hok f _ e)⟩
  refine PySem.W.callWith_F (ex I1 h0) (thn (ha.run pos pins s1 σ _ _ I1 ht) fun us s2 ⟨vs, H2, I2, r, cl, cvs, g, ⟨c', pm, ctv, hf, hc⟩, C, ii, hq⟩ => ⟨ex I2 hf, ?_⟩) he hpl
  refine wpAny_call (codeAny_mono (lam_run L C I2.env0 hr hf hc ii r hq) fun r' s' hr' => ?_)
  cases r' with
  | error e => exact False.elim hr'
  | ok fl =>
    cases fl with
    | ret u => exact I2.after hr'
    | next => exact False.elim hr'
    | brk => exact False.elim hr'
    | cont => exact False.elim hr'
/-- the cells of this frame, as they stand -/
theorem caps_of {pins : List (Addr × Obj)} {σ : L2.St} {H : Hp} {s : Shared} {cvs : List V} (I : Inv X pins σ H s) (hfn : ∀ y, X.fn y = true) (nd : cs.Nodup) (only : ∀ y ∈ lsc.names, y.2 = .free → y.1 ∈ cs) (hl : is.length = cs.length)
    (hc : ∀ (j : Nat) (y : Str), cs[j]? = some y → (y, NameKind.free) ∈ lsc.names ∧ X.env.scope.names.lookup y = some .cell ∧ ∃ i, is[j]? = some i ∧ X.N[i]? = some y) (hv : is.map (fun i => σ[i]?) = cvs.map (fun v => some (some v))) :
    ∃ g : Grp, Caps (cloFrom X.env.cells lsc.names []) cs cvs g ∧ XIn H s.heap g ∧ (∀ b ∈ g.map (·.1), X.base.get? b = none) ∧ ∀ b ∈ g.map (·.1), b ∉ frs X.stack := by
  have vl : cvs.length = cs.length := by
    have := congrArg List.length hv
    rw [List.length_map, List.length_map] at this
    omega
  have look : ∀ {y : Str} {c : Addr}, (y, NameKind.free) ∈ lsc.names → X.env.cells.lookup y = some c → (cloFrom X.env.cells lsc.names []).lookup y = some c := fun {y c} hy e => by
    obtain ⟨c', hc'⟩ := mem_lookup (cloFrom_has (cells := X.env.cells) (acc := []) hy)
    rcases cloFrom_mem (PySem.mem_of_lookup hc') with hm | ⟨_, h2⟩
    · cases hm
    · rw [e] at h2
      rw [hc', h2]; rfl
  have one : ∀ (j : Nat) (y : Str), cs[j]? = some y → ∃ (c : Addr) (o : Obj) (u : Value) (v : V), X.env.cells.lookup y = some c ∧ s.heap.get? c = some o ∧ o.data = .cell (some u) ∧ cvs[j]? = some v ∧ RelV v u := fun j y e => by
    obtain ⟨h1, h2, i, h3, h4⟩ := hc j y e
    have hj := (List.getElem?_eq_some_iff.mp e).1
    obtain ⟨v, ev⟩ : ∃ v, cvs[j]? = some v := ⟨_, List.getElem?_eq_getElem (by omega)⟩
    have hs : σ[i]? = some (some v) := by
      have := congrArg (fun l => l[j]?) hv
      simp only [List.getElem?_map, h3, ev, Option.map_some] at this
      exact Option.some.inj this
    obtain ⟨m, hn, hl'⟩ := I.loc
    obtain ⟨u, rv, lk⟩ := hl' i y v h4 hs (.inr (.inl h2))
    rcases lk with ⟨k1, _⟩ | ⟨_, c, e1, o, e2, e3⟩
    · have k1 : X.env.scope.names.lookup y = some .local := k1
      rw [h2] at k1; cases k1
    · exact ⟨c, o, u, v, e1, e2, e3, ev, rv⟩
  have all : ∀ (l : List Str), (∀ y ∈ l, ∃ (c : Addr) (o : Obj), X.env.cells.lookup y = some c ∧ s.heap.get? c = some o) → ∃ g : Grp, g.length = l.length ∧ ∀ (j : Nat) (y : Str), l[j]? = some y → ∃ (c : Addr) (o : Obj), X.env.cells.lookup y = some c ∧ s.heap.get? c = some o ∧ g[j]? = some (c, XO c o) := by
    intro l
    induction l with
    | nil => exact fun _ => ⟨[], rfl, fun j y e => by simp at e⟩
    | cons y l ih =>
      intro h
      obtain ⟨g, gl, hg⟩ := ih fun z hz => h z (List.mem_cons_of_mem _ hz)
      obtain ⟨c, o, e1, e2⟩ := h y List.mem_cons_self
      refine ⟨(c, XO c o) :: g, by rw [List.length_cons, List.length_cons, gl], fun j z e => ?_⟩
      cases j with
      | zero =>
        have : y = z := Option.some.inj e
        subst this
        exact ⟨c, o, e1, e2, rfl⟩
      | succ j => exact hg j z e
  obtain ⟨g, gl, hg⟩ := all cs fun y hy => by
    obtain ⟨j, ej⟩ := List.getElem?_of_mem hy
    obtain ⟨c, o, u, v, e1, e2, _⟩ := one j y ej
    exact ⟨c, o, e1, e2⟩
  have gAt : ∀ {j : Nat} {r : Addr × HO}, g[j]? = some r → ∃ (y : Str) (o : Obj), cs[j]? = some y ∧ X.env.cells.lookup y = some r.1 ∧ s.heap.get? r.1 = some o ∧ r.2 = XO r.1 o := fun {j r} e => by
    have hj := (List.getElem?_eq_some_iff.mp e).1
    obtain ⟨y, ey⟩ : ∃ y, cs[j]? = some y := ⟨_, List.getElem?_eq_getElem (by omega)⟩
    obtain ⟨c, o, e1, e2, e3⟩ := hg j y ey
    rw [e] at e3
    cases e3
    exact ⟨y, o, ey, e1, e2, rfl⟩
  have xg : XG g := by
    refine ⟨?_, fun r hr => ?_⟩
    · rw [List.nodup_iff_pairwise_ne, List.pairwise_map, List.pairwise_iff_getElem]
      intro a b ha hb lt e
      obtain ⟨y, o, y1, y2, _⟩ := gAt (List.getElem?_eq_getElem ha)
      obtain ⟨z, o', z1, z2, _⟩ := gAt (List.getElem?_eq_getElem hb)
      rw [← e] at z2
      have := I.ok.inj y z _ y2 z2
      subst this
      have := (List.getElem?_inj (List.getElem?_eq_some_iff.mp y1).1 nd).mp (y1.trans z1.symm)
      omega
    · obtain ⟨j, ej⟩ := List.mem_iff_getElem?.mp hr
      obtain ⟨y, o, _, _, _, e⟩ := gAt ej
      exact ⟨o, e⟩
  have mem : ∀ b ∈ g.map (·.1), ∃ (y : Str) (o : Obj), X.env.cells.lookup y = some b ∧ s.heap.get? b = some o := fun b m => by
    obtain ⟨r, hr, rfl⟩ := List.mem_map.mp m
    obtain ⟨j, ej⟩ := List.mem_iff_getElem?.mp hr
    obtain ⟨y, o, _, e1, e2, _⟩ := gAt ej
    exact ⟨y, o, e1, e2⟩
  have high : ∀ b ∈ g.map (·.1), X.s_0.heap.objs.size ≤ b := fun b m => by
    obtain ⟨y, o, e1, _⟩ := mem b m
    exact I.ok.cab y b (hfn y) e1
  refine ⟨g, ⟨xg, fun j y e => ?_, fun y c e => ?_, vl⟩, ⟨xg, fun b m => ?_, fun b o hm => ?_⟩, fun b m => ?_, fun b m z => ?_⟩
  · obtain ⟨c, o, u, v, e1, e2, e3, e4, e5⟩ := one j y e
    obtain ⟨c', o', f1, f2, f3⟩ := hg j y e
    rw [e1] at f1; cases f1
    rw [e2] at f2; cases f2
    exact ⟨c, o, u, v, look (hc j y e).1 e1, f3, e3, e4, e5⟩
  · rcases cloFrom_mem (PySem.mem_of_lookup e) with hm | ⟨h1, _⟩
    · cases hm
    · exact only _ h1 rfl
  · obtain ⟨y, o, e1, _⟩ := mem b m
    exact I.freeC y b e1
  · obtain ⟨j, ej⟩ := List.mem_iff_getElem?.mp hm
    obtain ⟨y, o', _, _, e2, e3⟩ := gAt ej
    have e3 : XO b o = XO b o' := e3
    have : o = o' := by unfold XO at e3; injection e3
    rw [this]; exact e2
  · cases e : X.base.get? b with
    | none => rfl
    | some o => exact absurd (Nat.lt_of_lt_of_le (Heap.lt_size e) (Nat.le_trans I.ok.bsz (high b m))) (Nat.lt_irrefl _)
  · rcases List.mem_cons.mp (I.stkSub b z) with e | e
    · obtain ⟨y, o, e1, _⟩ := mem b m
      exact I.cne y b e1 e
    · obtain ⟨_, o, ho, _⟩ := I.ok.funs.mem e
      exact absurd (Nat.lt_of_lt_of_le (Heap.lt_size ho) (high b m)) (Nat.lt_irrefl _)
/-- an error that leaves a call whose cells were shown -/
def HidesX (CX : CXT) (X : Cx) : Prop := ∀ {H : Hp} {s s' : Shared} {g : Grp} {E : XK} {e : Value}, XIn H s.heap g → CX X.stack (showG H g) s (HideE g E) e s' → CX X.stack H s E e s'
theorem hidesX : HidesX (L2.CX X.prog X.w) X := fun x h => x.cx h
/-- which names a lambda captures, and where they stand -/
def capB (lsc sc : Scope) (N cs : List Str) (is : List Nat) : Bool := decide cs.Nodup && decide (is.length = cs.length) && lsc.names.all (fun y => !decide (y.2 = NameKind.free) || decide (y.1 ∈ cs)) && (List.zip cs is).all fun p => decide ((p.1, NameKind.free) ∈ lsc.names) && decide (sc.names.lookup p.1 = some .cell) && decide (N[p.2]? = some p.1)
theorem pe_callC {E : L2.St → XK} {cells : List (Str × Addr)} (hcl : X.env.cells = cells) (F : FnOk X.prog X.w X.K X.mg X.base CX k f fd ps sp) (hr : Room k X.A) (hg : Gl X x) (hm : X.mg x = some (.ref f)) (hk : PySem.W.keepIn X.K (.ref f) = true) (hb : Binds X.K fd ps []) (hx : ∀ σ, PassesAt CX X σ (E σ)) (hh : HidesX CX X)
    (hfn : ∀ y, X.fn y = true) (cb : capB lsc X.env.scope X.N cs is = true)
    (ha : PA X (e :: es) t) (hdb : (x == ("__debug__" : Str)) = false := by decide) (he : starEach (e :: es) X.env = (false, eval e X.env) :: starEach es X.env := by rfl) (hpl : (backTo pos (starEach es X.env)).any (·.1) = false := by rfl) :
    PE X (.Call (.Name x p) (e :: es) [] pos) (tCallC (cloFrom cells lsc.names []) cs is sp E t) := by
  subst hcl
  unfold capB at cb
  simp only [Bool.and_eq_true, Bool.or_eq_true, Bool.not_eq_true', decide_eq_true_eq, decide_eq_false_iff_not, List.all_eq_true] at cb
  obtain ⟨⟨⟨nd, hl⟩, only⟩, hz⟩ := cb
  have hc : ∀ (j : Nat) (y : Str), cs[j]? = some y → (y, NameKind.free) ∈ lsc.names ∧ X.env.scope.names.lookup y = some .cell ∧ ∃ i, is[j]? = some i ∧ X.N[i]? = some y := fun j y e => by
    have hj := (List.getElem?_eq_some_iff.mp e).1
    obtain ⟨i, ei⟩ : ∃ i, is[j]? = some i := ⟨_, List.getElem?_eq_getElem (by omega)⟩
    obtain ⟨⟨h1, h2⟩, h3⟩ := hz (y, i) (List.mem_iff_getElem?.mpr ⟨j, by rw [List.getElem?_zip_eq_some]; exact ⟨e, ei⟩⟩)
    exact ⟨h1, h2, i, ei, h3⟩
  have only' : ∀ y ∈ lsc.names, y.2 = .free → y.1 ∈ cs := fun y hy e => (only y hy).elim (fun z => absurd e z) id
  refine ⟨fun pins s σ H Q I h => ?_⟩
  refine wpAny_Call_Name_kw (ld_glob I hg hm ?_ hdb)
  refine PySem.W.callWith_K (h₀ := X.base) I.ok.mod.kin hk (thn (ha.run pos pins s σ H _ I h) fun us s1 ⟨vs, H1, I1, r, cvs, hv, q⟩ => ⟨I1.kIn, ?_⟩) he hpl
  obtain ⟨g, C, xi, nb, nf⟩ := caps_of I1 hfn nd only' hl hc hv
  have hs := q g C xi.fr
  have len : (us ++ []).length = ps.length := by
    rw [List.append_nil, ← r.length]
    exact F.len _ _ _ _ hs
  refine wpAny_call (codeAny_mono (F.run X.A X.stack s1 (showG H1 g) ⟨us, []⟩ (us ++ []) vs _ _ hr (xi.env0 I1.env0 nb nf) (hb s1 us I1.kIn len) (by rw [List.append_nil]; exact r) hs) fun r' s' hq => ?_)
  cases r' with
  | error e => exact hx σ pins H1 s1 e s' I1 (hh xi hq)
  | ok fl =>
    cases fl with
    | ret u => exact I1.after (xi.ce hq)
    | next => exact False.elim hq
    | brk => exact False.elim hq
    | cont => exact False.elim hq
end
/-! ## a maker of lambdas -/
structure FunC (K : PySem.W.Frag) (x qual : Str) (st : Stmt) (f : Addr) (fd : FuncData) (c : Addr) : Prop where
  ex : ∃ (oc : Value) (od : Option Addr) (kV doc pm : Value) (an : Option Addr) (ct : Value) (osl : Array (Option Value)),
    fd = PySem.W.fnOf x qual (defArgs st) (defBody st) (defScope st) .none kV doc pm an (.ref c) ct ∧ K.lookup f = some ⟨oc, od, .func fd, osl⟩ ∧ PySem.W.codeIn K (.ref c) qual = true
section
variable {P : Program} {w : World} {K : PySem.W.Frag} {mg : Str → Option Value} {base : Heap} {x qual : Str} {st : Stmt} {f c : Addr} {fd : FuncData} {N ps : List Str} {k : Nat} {sp : Sp}
theorem FunC.ok (F : FunC K x qual st f fd c) (S : FnScope N ps (defScope st)) (len : ∀ vs H Q E, sp vs H Q E → vs.length = ps.length)
    (hbody : ∀ (A : Around) (outer : List Env) (s : Shared) (H : Hp) (vs : List V) (Q : VK) (E : XK), Room k (A.deeper (envOfC qual (defScope st) s.heap.objs.size f (.ref c))) → sp vs H Q E →
      ∃ t, PSs (cxOf C8.CX0 P w K mg base N qual (defScope st) f (.ref c) A outer s H E).nox (defBody st) t ∧ t { nx := fun _ H' => Q .non H', rt := Q } (L2.start N vs) H) : FnOk P w K mg base C8.CX0 (k + 1) f fd ps sp := by
  obtain ⟨oc, od, kV, doc, pm, an, ct, osl, rfl, lk, hcd⟩ := F.ex
  refine fn_of lk hcd S len fun A outer s H vs Q E hr hsp => ?_
  obtain ⟨t, h, q⟩ := hbody A outer s H vs Q E hr hsp
  exact ⟨t, h.nox, q⟩
theorem FunC.okX (F : FunC K x qual st f fd c) (S : FnScope N ps (defScope st)) (len : ∀ vs H Q E, sp vs H Q E → vs.length = ps.length)
    (hbody : ∀ (A : Around) (outer : List Env) (s : Shared) (H : Hp) (vs : List V) (Q : VK) (E : XK), Room k (A.deeper (envOfC qual (defScope st) s.heap.objs.size f (.ref c))) → sp vs H Q E →
      ∃ t, PSs (cxOf (L2.CX P w) P w K mg base N qual (defScope st) f (.ref c) A outer s H E) (defBody st) t ∧ t { nx := fun _ H' => Q .non H', rt := Q } (L2.start N vs) H) : FnOk P w K mg base (L2.CX P w) (k + 1) f fd ps sp := by
  obtain ⟨oc, od, kV, doc, pm, an, ct, osl, rfl, lk, hcd⟩ := F.ex
  exact fn_of lk hcd S len fun A outer s H vs Q E hr hsp => hbody A outer s H vs Q E hr hsp
end
/-! ## the readings -/
section
variable {K : PySem.W.Frag} {H Ho Ho' : Hp} {R g : Grp} {q : Str} {params : Arguments} {body : Expr} {scope : Scope} {cs : List Str} {cvs vs : List V} {v : V} {x : Unit} {Q : VK} {sp : Sp} {i : Nat} {t : TA} {σ : L2.St} {cl : List (Str × Addr)} {is : List Nat} {E : XK}
theorem OLam.mo (h : OLam q params body scope cs cvs K Ho v x g) (e : Same Ho Ho') : OLam q params body scope cs cvs K Ho' v x g := by
  obtain ⟨f, cl, h1, h2, h3⟩ := h
  exact ⟨f, cl, h1, h2.mo e, h3⟩
theorem LamF.up {f : Addr} (h : LamF q params body scope cl Ho f) (z : Zs R H Ho) : LamF q params body scope cl H f := h.mo z.le
def adrV : V → Addr | .ref f => f | _ => 0
/-- x(..): first the name -/
theorem y_lamN (d : OLam q params body scope cs cvs K Ho v x g) (z : Zs (g ++ R) H Ho) (hs : σ[i]? = some (some v)) (k : t σ H fun vs H1 => ∃ (cl : List (Str × Addr)) (cvs : List V) (g : Grp),
    LamF q params body scope cl H1 (adrV v) ∧ Caps cl cs cvs g ∧ (∀ r ∈ g, H1 r.1 = some r.2) ∧ sp (vs ++ cvs) (hideG H1 g) (ShowK g Q) C8.E0) : tCallLam i q params body scope cs sp t σ H Q := by
  obtain ⟨f, cl, rfl, h2, h3⟩ := d
  exact ⟨f, hs, ⟨cl, h2.up z⟩, k⟩
/-- then the call -/
theorem y_lamC (d : OLam q params body scope cs cvs K Ho v x g) (z : Zs (g ++ R) H Ho) (k : Zs R (hideG H g) Ho → sp (vs ++ cvs) (hideG H g) (ShowK g Q) C8.E0) :
    ∃ (cl : List (Str × Addr)) (cvs : List V) (g : Grp), LamF q params body scope cl H (adrV v) ∧ Caps cl cs cvs g ∧ (∀ r ∈ g, H r.1 = some r.2) ∧ sp (vs ++ cvs) (hideG H g) (ShowK g Q) C8.E0 := by
  obtain ⟨f, cl, rfl, h2, h3⟩ := d
  exact ⟨cl, cvs, g, h2.up z, h3, z.known, k z.hide⟩
theorem OLam.xg (d : OLam q params body scope cs cvs K Ho v x g) : XG g := d.elim fun _ h => h.elim fun _ h => h.2.2.xg
theorem y_callL {E : L2.St → XK} (k : t σ H fun vs H1 => ∃ cvs : List V, is.map (fun i => σ[i]?) = cvs.map (fun v => some (some v)) ∧ ∀ g : Grp, Caps cl cs cvs g → (∀ b ∈ g.map (·.1), H1 b = none) → sp vs (showG H1 g) (HideK g Q) (HideE g (E σ))) : tCallC cl cs is sp E t σ H Q := k
/-- the cells shown to a call -/
theorem y_callC {f : Addr} (h : LamF q params body scope cl Ho f) (z : Zs R H Ho) (hv : is.map (fun i => σ[i]?) = cvs.map (fun v => some (some v)))
    (k : ∀ g, Zs (g ++ R) (showG H g) Ho → OLam q params body scope cs cvs K Ho (.ref f) () g → sp vs (showG H g) (HideK g Q) (HideE g E)) :
    ∃ cvs : List V, is.map (fun i => σ[i]?) = cvs.map (fun v => some (some v)) ∧ ∀ g : Grp, Caps cl cs cvs g → (∀ b ∈ g.map (·.1), H b = none) → sp vs (showG H g) (HideK g Q) (HideE g E) :=
  ⟨cvs, hv, fun g C fr => k g (z.show C.xg fr) ⟨f, cl, rfl, h, C⟩⟩
end
end Z
/-! # an error that may come, kept; the field of any of the errors; counting; a text many times -/
namespace L2
open PySem PySem.Spec PyProof.Rows Z
section
variable {X : Cx} {x n : Str} {c : Value} {i : Nat} {body suite rest : List Stmt} {b₀ : Stmt} {np pos pos' : Pos} {tb : WX → TS} {ts : Addr → Value → Option Addr → TS} {tr : TS} {Wout : WX}
theorem pss_try_keepB (hex : X.ex = []) (hs : X.stack = X.env :: X.outer) (hf : X.env.frame = some X.env.locals) (hN : X.N.Nodup) (hi : X.N[i]? = some n) (hln : X.env.kindOf n = some .local) (hc : Names X x c) (tk : Takes X Wout)
    (hb : ∀ (W : WX) (pn : List (Addr × Obj)) (xe : Value → Shared → Prop), Takes (X.tr pn xe) W → PassesOwn (model X.prog X.w) X.A X.env xe → PSs (X.tr pn xe) body (tb W))
    (hsu : ∀ (a : Addr) (oe : Obj) (cls : Value) (d : Option Addr) (pn : List (Addr × Obj)), Zc cls d oe → (∃ vs, oe.data = .fields vs) → PSs (X.suite a ((a, oe) :: pn)) (b₀ :: suite) (ts a cls d))
    (hr : PSs X rest tr) :
    PSs X (.Try body [.ExceptHandler (some (.Name x np)) (some n) (b₀ :: suite) pos'] [] [] pos :: rest) (fun D σ H => tb (wKeepA X.K c i ts tr Wout D) { D with nx := tr D } σ H) := by
  refine ⟨fun pins s σ H D I h => ?_⟩
  have ok := I.ok
  have hfr : X.A.frames = some (X.env :: X.outer) := by rw [ok.frames, hs]
  have hloc : Loc X.env.scope n := .inl hln
  suffices go : ∀ QQ : Flow → Shared → Prop, (∀ {s'}, wpAny (model X.prog X.w) X.A (execs rest X.env) (SP X pins D) X.xe s' → QQ .next s') → (∀ {s'}, SP X pins D .brk s' → QQ .brk s') → (∀ {s'}, SP X pins D .cont s' → QQ .cont s') → (∀ {u s'}, SP X pins D (.ret u) s' → QQ (.ret u) s') →
      wpAny (model X.prog X.w) X.A (exec (.Try body [.ExceptHandler (some (.Name x np)) (some n) (b₀ :: suite) pos'] [] [] pos) X.env) QQ X.xe s from
    wpAny_execs_cons (go _ (fun z => z) (fun z => z) (fun z => z) (fun z => z))
  intro QQ q_nx q_brk q_cont q_ret
  refine wpAny_Try_except ?_
  refine wpAny_mono ((hb (wKeepA X.K c i ts tr Wout D) (X.pn ++ pins) (fun e s₁ => wpAny (model X.prog X.w) X.A (noteFrame e X.env) (fun _ s₂ => wpAny (model X.prog X.w) X.A (setFlight e none) (fun _ s₃ =>
    wpAny (model X.prog X.w) X.A (handleBy e X.env [.ExceptHandler (some (.Name x np)) (some n) (b₀ :: suite) pos']) QQ X.xe s₃) X.xe s₂) X.xe s₁) (fun u s' xx => ?_) PassesOwn.looking).run [] s σ H { D with nx := tr D } (I.toTry _) h) (fun f s1 hsp => ?_) (fun e s1 he => he)
  · -- the catch
    obtain ⟨a, B, sI, pins', σ', H', cls, d, rfl, J', nb, up, sky, na, os, ag, b, hb1, hyes, hno⟩ := xx
    have J : Inv X pins σ' H' sI := J'.ofTry ok
    have sky' : Sky B (X.env :: X.outer) a (Zc cls d) X.env.locals s'.heap := by rw [← hs]; exact sky
    show wpAny (model X.prog X.w) X.A (noteFrame (.ref a) X.env) _ _ _
    refine Sky.land Zc.steady hfr hf sky' fun h3 fl3 up3 => ?_
    have J3 : Inv X pins σ' H' { s' with heap := h3 } := J.landed nb fl3.1 (up.trans up3) os ag
    obtain ⟨oe3, vs3, he3, hz3, hd3⟩ := fl3.there
    have notFr : ∀ {h : Heap} {o : Obj} {vs : Array Value}, h.FunFrames B (X.env :: X.outer) → h.get? a = some o → o.data = .fields vs → a ∉ frs (X.env :: X.outer) := fun {h o vs} ff e dd hm => by
      obtain ⟨_, o', e', hnf⟩ := ff.mem hm
      rw [e] at e'; cases e'
      exact hnf _ dd
    have nfr := notFr fl3.2.2.1 he3 hd3
    have Ba : B.get? a = none := by rcases sky with z | z | z <;> exact z.2.1
    have nfr' : a ∉ frs X.stack := by rw [hs]; exact nfr
    have nsI : sI.heap.get? a = none := by
      cases e : sI.heap.get? a with
      | none => rfl
      | some o => rw [nb a o e nfr'] at Ba; cases Ba
    have n0 : X.s_0.heap.get? a = none := by
      cases e : X.s_0.heap.get? a with
      | none => rfl
      | some o =>
        obtain ⟨o', e'⟩ := J.base.there a o e (by rw [hex]; exact fun z => nomatch z)
        rw [nsI] at e'; cases e'
    have npin : ∀ p ∈ X.pn ++ pins, p.1 ≠ a := fun p hp z => by
      have q := (J.pin p hp).1
      rw [z, nsI] at q; cases q
    have nL : a ≠ X.env.locals := fun z => nfr (List.mem_filterMap.mpr ⟨X.env, List.mem_cons_self, by rw [hf, z]⟩)
    have nF : a ∉ X.fs := fun hm => by
      obtain ⟨e, he, q⟩ := List.mem_filterMap.mp hm
      exact nfr (List.mem_filterMap.mpr ⟨e, List.mem_cons_of_mem _ he, q⟩)
    have S3 := J3.suite he3 hd3 na nL nF
    refine wpAny_handleBy_cons (codeAny_handlers_test ?_) (by intro q; cases q)
    have LT : PySem.W.Looks (model X.prog X.w) h3 (typeOf (.ref a)) cls := fun A Q E s k q => wpAny_typeOf_ref (k _ _ he3) (by rw [hz3.1]; exact q)
    have LM := PySem.W.exm_one (M := model X.prog X.w) (J3.kIn) LT hb1
    have test : ∀ {Q : Value → Shared → Prop} {E : Value → Shared → Prop}, Q c { s' with heap := h3 } → wpAny (model X.prog X.w) (X.A.mark (some (.ref a))) (eval (.Name x np) X.env) Q E { s' with heap := h3 } := fun {Q E} q => by
      obtain ⟨hg, hdbg, hm | ⟨hm, hv, hnn⟩⟩ := hc
      · exact ld_glob (X := X.suite a ((a, oe3) :: (X.pn ++ pins))) S3 hg hm q hdbg
      · exact ld_blt (X := X.suite a ((a, oe3) :: (X.pn ++ pins))) S3 hg hm hv q hnn hdbg
    refine test (LM.here ?_)
    cases b with
    | true =>
      refine codeAny_handlers_suite_as ?_
      refine HandSPX.lands_againZ fl3 fun h4 fl4 up4 => ?_
      have J4 : Inv X pins σ' H' { s' with heap := h4 } := J.landed nb fl4.1 ((up.trans up3).trans up4) os ag
      obtain ⟨oe4, vs4, he4, hz4, hd4⟩ := fl4.there
      have S4 := J4.suite he4 hd4 na nL nF
      refine store_ok (X := X.suite a ((a, oe4) :: (X.pn ++ pins))) (v := .ref a) S4 hN hi hloc rfl (fun s5 S5 => ?_) (.inr hln)
      refine wpAny_mono ((hsu a oe4 cls d (X.pn ++ pins) hz4 ⟨_, hd4⟩).run [] s5 _ H' _ S5 (hyes rfl a na)) (fun f s6 hsp => ?_) (fun _ _ z => False.elim z)
      have end_ : ∀ {σ6 : St} {H6 : Hp} {Q : Shared → Prop}, Inv (X.suite a ((a, oe4) :: (X.pn ++ pins))) [] σ6 H6 s6 → (∀ s7, Inv (X.tr ((a, oe4) :: (X.pn ++ pins)) X.xe) [] (σ6.set i none) H6 s7 → Q s7) →
          wpAny (model X.prog X.w) X.A (do bindName X.env n .none; unbindBehindTheSuite X.env n pos') (fun _ s7 => Q s7) X.xe s6 := fun {σ6 H6 Q} S6 hq => gone_ok (X := X.tr ((a, oe4) :: (X.pn ++ pins)) X.xe) (S6.keepS ok) hN hi hln hq
      cases f with
      | next =>
        obtain ⟨σ6, H6, S6, q6⟩ := hsp
        refine end_ S6 fun s7 J7 => q_nx ?_
        obtain ⟨p1, p2, _⟩ := J7.pin (a, oe4) (List.mem_append_left _ List.mem_cons_self)
        exact hr.run pins s7 _ _ D ((J7.unkeep ok).adopt p2 n0 nL p1 ⟨_, hd4⟩ npin (exV_ok p1 hz4 ⟨_, hd4⟩)) q6
      | brk =>
        obtain ⟨σ6, H6, S6, q6⟩ := hsp
        exact q6.elim
      | cont =>
        obtain ⟨σ6, H6, S6, q6⟩ := hsp
        exact q6.elim
      | ret u =>
        obtain ⟨v6, σ6, H6, S6, r6, q6⟩ := hsp
        exact q6.elim
    | false =>
      show wpAny _ X.A (handleBy (.ref a) X.env []) _ _ _
      refine wpAny_handleBy_nil ?_
      obtain ⟨k1, k2, k3, oe, vs, T, oT, ts', he, hz, hd, h1, hr⟩ := id fl3
      unfold PySem.passOn
      refine wpAny_bind (wpAny_field he hd h1 ?_)
      rw [if_neg (show ¬ ((Value.ref T == Value.none) = true) from by simp)]
      have fin : wpAny (model X.prog X.w) X.A (setFlight (.ref a) X.env.frame) (fun _ s4 => wpAny (model X.prog X.w) X.A (throw (.ref a) : Sem Flow) QQ X.xe s4) X.xe { s' with heap := h3 } := by
        rw [hf]
        refine HandSPX.setFlight_upZ fl3 fun h4 hh4 up4 => wpAny_throw (tk _ _ ?_)
        exact ⟨a, B, sI, pins, σ', H', cls, d, rfl, J, nb, (up.trans up3).trans up4, .inr (.inr (by rw [hs]; exact hh4)), na, os, ag, hno rfl⟩
      first
        | exact wpAny_bind (wpAny_pure (wpAny_bind fin))
        | exact wpAny_bind fin
  · cases f with
    | next =>
      obtain ⟨σ', H', J', q⟩ := hsp
      show wpAny (model X.prog X.w) X.A (execs [] X.env) QQ X.xe s1
      exact wpAny_execs_nil (q_nx (hr.run pins s1 σ' H' D (J'.ofTry ok) q))
    | brk =>
      obtain ⟨σ', H', J', q⟩ := hsp
      exact q_brk ⟨σ', H', J'.ofTry ok, q⟩
    | cont =>
      obtain ⟨σ', H', J', q⟩ := hsp
      exact q_cont ⟨σ', H', J'.ofTry ok, q⟩
    | ret u =>
      obtain ⟨v, σ', H', J', r, q⟩ := hsp
      exact q_ret ⟨v, σ', H', J'.ofTry ok, r, q⟩
end
end L2
namespace Z
open PySem PySem.Spec PyProof.Rows L2
def tTryB (K : PySem.W.Frag) (c : Value) (i : Nat) (tb : WX → TS) (ts : Addr → Value → Option Addr → TS) (tr : TS) (Wout : WX) : TS := fun D σ H => tb (wKeepA K c i ts tr Wout D) { D with nx := tr D } σ H
section
variable {X : Cx} {K : PySem.W.Frag} {x n : Str} {c : Value} {i : Nat} {body suite rest : List Stmt} {b₀ : Stmt} {np pos pos' : Pos} {tb : WX → TS} {ts : Addr → Value → Option Addr → TS} {tr : TS} {Wout : WX}
theorem zpss_try_keepB (hK : X.K = K) (hex : X.ex = []) (hs : X.stack = X.env :: X.outer) (hf : X.env.frame = some X.env.locals) (hN : X.N.Nodup) (hi : X.N[i]? = some n) (hln : X.env.kindOf n = some .local) (hc : Names X x c) (tk : Takes X Wout)
    (hb : ∀ (W : WX) (pn : List (Addr × Obj)) (xe : Value → Shared → Prop), Takes (X.tr pn xe) W → PassesOwn (model X.prog X.w) X.A X.env xe → PSs (X.tr pn xe) body (tb W))
    (hsu : ∀ (a : Addr) (oe : Obj) (cls : Value) (d : Option Addr) (pn : List (Addr × Obj)), Zc cls d oe → (∃ vs, oe.data = .fields vs) → PSs (X.suite a ((a, oe) :: pn)) (b₀ :: suite) (ts a cls d))
    (hr : PSs X rest tr) :
    PSs X (.Try body [.ExceptHandler (some (.Name x np)) (some n) (b₀ :: suite) pos'] [] [] pos :: rest) (tTryB K c i tb ts tr Wout) := hK ▸ pss_try_keepB hex hs hf hN hi hln hc tk hb hsu hr
end
section
variable {K : PySem.W.Frag} {H Ho : Hp} {rs R : Grp} {σ : L2.St} {γ α β : Type} [Py α] [Py β] {Φ : γ → Prop} {cl : Nat → Addr} {Wout : WX} {D : Ends} {i : Nat} {Q : VK} {v w : V} {er : Er}
/-- the body may raise; the slot j holds the error or None -/
theorem y_tryB {c : Value} {cb : W (Ex Unit)} {f : Option Er → W γ} {tb : WX → TS} {tr : TS} {sub : Nat → Bool} {j : Nat} (σ' : V → L2.St) (hm : ∀ n, PySem.W.exmOne K (.ref (cl n)) c = some (sub n)) (z : Zs rs H Ho)
    (hw : (W.bind (W.exm cb (fun _ => W.ret none) fun e => W.guard (sub e.cls = true) (W.ret (some e))) f).run Φ)
    (hσ : ∀ v, ((σ.set i (some v)).set j (some v)).set i none = σ' v) (hsl : ∀ v : V, (σ.set i (some v))[i]? = some (some v)) (h0 : σ = σ' .non)
    (hb : ∀ (Wx : WX) (N : L2.St → Hp → Prop), cb.run (ExP (fun _ => ∀ H' Ho', Same Ho Ho' → Zs rs H' Ho' → N σ H') fun e => ∀ H' Ho' d, Same Ho Ho' → Zs rs H' Ho' → ErD K Ho' d e → Wx (.ref (cl e.cls)) d σ H') → tb Wx { D with nx := N } σ H)
    (hs : ∀ e v H' Ho', Same Ho Ho' → Zs rs H' Ho' → XV cl K Ho' v e → (f e).run Φ → tr D (σ' v) H') : tTryB K c i tb (fun a cls d => fun D2 σ2 H2 => ∃ v, σ2[i]? = some (some v) ∧ D2.nx (σ2.set j (some v)) H2) tr Wout D σ H := by
  refine hb _ _ (W.mono _ _ _ (fun r hr => ?_) (run_exm hw))
  cases r with
  | ok s =>
    intro H' Ho' e z'
    show tr D σ H'
    rw [h0]
    exact hs none .non H' Ho' e z' rfl hr
  | er r =>
    refine fun H' Ho' d e z' er => ⟨true, by rw [hm, hr.1], fun _ a ha => ⟨.ref a, hsl _, ?_⟩, fun q => nomatch q⟩
    show tr D _ (upd H' a (ExV (.ref (cl r.cls)) d a))
    rw [hσ]
    have e2 := Same.new (o := ExV (.ref (cl r.cls)) d a) (z'.free ha)
    exact hs (some r) (.ref a) _ _ (e.trans e2) (z'.alloc ha) ⟨a, d, rfl, upd_same, er.mo e2⟩ hr.2
theorem dec_nonX {x : Option Er} (d : XV cl K Ho v x) : decide (v = V.non) = x.isNone := by
  cases x with
  | none => cases (show v = .non from d); rfl
  | some e =>
    obtain ⟨a, d, rfl, _⟩ := d
    rfl
end
/-! slices of texts -/
/-! loops over things that are borrowed -/
end Z
/-! # lambdas (4): made inside a try whose error is kept -/
namespace Z
open PySem PySem.Spec PyProof.Rows L2
section
variable {K : PySem.W.Frag} {H Ho : Hp} {rs : Grp} {σ : L2.St} {cl : Nat → Addr} {γ : Type} {Φ : γ → Prop} {D : Ends} {Wout : WX} {i : Nat}
/-- what the body changes is carried on; where an error comes one group may have grown (PT), all else is as it was -/
theorem y_tryBT {S : Type} {c : Value} {cb : W (Ex S)} {s0 : S} {f : Option Er × S → W γ} {tb : WX → TS} {tr : TS} {sub : Nat → Bool} {j : Nat} {PT : Hp → Grp → Prop} (J : S → L2.St → Hp → Hp → Prop) (hm : ∀ n, PySem.W.exmOne K (.ref (cl n)) c = some (sub n)) (hPT : ∀ {Ho Ho' g}, PT Ho g → Same Ho Ho' → PT Ho' g)
    (hw : (W.bind (W.exm cb (fun s => W.ret (none, s)) fun e => W.guard (sub e.cls = true) (W.ret (some e, s0))) f).run Φ)
    (hσ : ∀ v, ((σ.set i (some v)).set j (some v)).set i none = (σ.set j (some v)).set i none) (hsl : ∀ v : V, (σ.set i (some v))[i]? = some (some v))
    (hJ : ∀ H' Ho' gT, Same Ho Ho' → Zs (gT ++ rs) H' Ho' → PT Ho' gT → J s0 σ H' Ho') (hn : ∀ s σ' H' Ho', J s σ' H' Ho' → (σ'.set j (some .non)).set i none = σ')
    (hb : ∀ (Wx : WX) (N : L2.St → Hp → Prop), cb.run (ExP (fun s => ∀ σ' H' Ho', Same Ho Ho' → J s σ' H' Ho' → N σ' H') fun e => ∀ H' Ho' d gT, Same Ho Ho' → Zs (gT ++ rs) H' Ho' → PT Ho' gT → ErD K Ho' d e → Wx (.ref (cl e.cls)) d σ H') → tb Wx { D with nx := N } σ H)
    (hs : ∀ e v s σ' H' Ho', Same Ho Ho' → J s σ' H' Ho' → XV cl K Ho' v e → (f (e, s)).run Φ → tr D ((σ'.set j (some v)).set i none) H') : tTryB K c i tb (fun a cls d => fun D2 σ2 H2 => ∃ v, σ2[i]? = some (some v) ∧ D2.nx (σ2.set j (some v)) H2) tr Wout D σ H := by
  refine hb _ _ (W.mono _ _ _ (fun r hr => ?_) (run_exm hw))
  cases r with
  | ok s =>
    intro σ' H' Ho' e hj
    show tr D σ' H'
    have := hs none .non s σ' H' Ho' e hj rfl hr
    rw [hn s σ' H' Ho' hj] at this
    exact this
  | er r =>
    refine fun H' Ho' d gT e z' pt er => ⟨true, by rw [hm, hr.1], fun _ a ha => ⟨.ref a, hsl _, ?_⟩, fun q => nomatch q⟩
    show tr D _ (upd H' a (ExV (.ref (cl r.cls)) d a))
    rw [hσ]
    have e2 := Same.new (o := ExV (.ref (cl r.cls)) d a) (z'.free ha)
    exact hs (some r) (.ref a) s0 σ _ _ (e.trans e2) (hJ _ _ gT (e.trans e2) (z'.alloc ha) (hPT pt e2)) ⟨a, d, rfl, upd_same, er.mo e2⟩ hr.2
end
/-! ## the top -/
theorem tab_nil {q : Str} {Ho : Hp} : TabI q #[] Ho := ⟨True.intro, fun p cv h => by
  have h : codeAmong p [] = some cv := h
  simp [codeAmong] at h⟩
theorem sql_hide {K : PySem.W.Frag} {H : Hp} {g : Grp} {a : Addr} {xs : List V} (n : ∀ b ∈ g.map (·.1), ∃ ps, H b = some (.tbl ps)) (h : SqL K H a xs) : SqL K (hideG H g) a xs := by
  rcases h with (h | ⟨o, h⟩) | h
  · refine .inl (.inl ?_)
    rw [hide_out fun m => by obtain ⟨ps, e⟩ := n a m; rw [h] at e; cases e]
    exact h
  · refine .inl (.inr ⟨o, ?_⟩)
    rw [hide_out fun m => by obtain ⟨ps, e⟩ := n a m; rw [h] at e; cases e]
    exact h
  · exact .inr h
theorem Zs.tabs {H : Hp} {g : Grp} (nd : (g.map (·.1)).Nodup) (h : ∀ r ∈ g, H r.1 = some r.2 ∧ ∃ ps, r.2 = .tbl ps) : Zs g H (hideG H g) := ⟨fun b o e => by
  by_cases m : b ∈ g.map (·.1)
  · rw [hide_in m] at e; cases e
  · rw [hide_out m] at e; exact e, fun r hr => ⟨(h r hr).1, hide_in (List.mem_map.mpr ⟨r, hr, rfl⟩)⟩, nd, fun r hr => by
  obtain ⟨ps, e⟩ := (h r hr).2
  rw [e]; exact True.intro⟩
theorem Zs.tab1 {H : Hp} {P : Addr} {ps : Array Value} (h : H P = some (.tbl ps)) : Zs ([(P, HO.tbl ps)] ++ []) H (hideG H [(P, HO.tbl ps)]) := by
  rw [List.append_nil]
  exact Zs.tabs (by simp) fun r hr => by
    rw [List.mem_singleton.mp hr]
    exact ⟨h, ps, rfl⟩
end Z
/-! # a list of which no item is None -/
namespace Z
open PySem PySem.Spec PyProof.Rows L2
def getAll {α : Type} : List (Option α) → Option (List α)
  | [] => some []
  | o :: os => match o, getAll os with
    | some a, some as => some (a :: as)
    | _, _ => none
theorem getAll_map {α : Type} : ∀ {os : List (Option α)} {xs : List α}, getAll os = some xs → os = xs.map some
  | [], xs, h => by cases h; rfl
  | o :: os, xs, h => by
    unfold getAll at h
    cases o with
    | none => cases h
    | some a =>
      cases e : getAll os with
      | none => rw [e] at h; cases h
      | some as =>
        rw [e] at h
        cases h
        rw [getAll_map e]
        rfl
section
variable {K : PySem.W.Frag} {H Ho : Hp} {α γ : Type} [Py α] {Φ : γ → Prop} {v : V}
theorem y_getAll {os : List (Option α)} {f : List α → W γ} {P : Prop} (d : Z.D K Ho v os) (hw : (W.bind (W.opt (getAll os)) f).run Φ) (k : ∀ xs, Z.D K Ho v xs → (f xs).run Φ → P) : P := by
  obtain ⟨xs, e, hw⟩ := hw
  refine k xs ?_ hw
  rw [getAll_map e] at d
  have q : toPy (xs.map some : List (Option α)) = toPy xs := by
    show PyData.list ((xs.map some).map Py.toPy) = PyData.list (xs.map Py.toPy)
    rw [List.map_map]
    rfl
  show Dq K Ho v (toPy xs)
  rw [← q]
  exact d
end
end Z
/-! # Ym: what the computations promise, in plain Lean -/
namespace Z
open PySem L2
section
variable {α β γ S ρ : Type}
theorem run_bind {c : W α} {f : α → W β} {Φ : β → Prop} : (W.bind c f).run Φ = c.run fun a => (f a).run Φ := propext ⟨fun h => h, fun h => h⟩
theorem run_bind2 {c : W (α × β)} {f : α → β → W γ} {Φ : γ → Prop} : (W.bind2 c f).run Φ = c.run fun r => (f r.1 r.2).run Φ := propext ⟨fun h => h, fun h => h⟩
theorem run_rt {a : α} {Φ : α → Prop} : (W.ret a).run Φ = Φ a := propext ⟨fun h => h, fun h => h⟩
theorem run_guard {p : Prop} {c : W α} {Φ : α → Prop} : (W.guard p c).run Φ = (p ∧ c.run Φ) := propext ⟨fun h => h, fun h => h⟩
theorem run_opt {o : Option α} {Φ : α → Prop} : (W.opt o).run Φ = ∃ a, o = some a ∧ Φ a := propext ⟨fun h => h, fun h => h⟩
theorem run_ite {b : Bool} {x y : W α} {Φ : α → Prop} : (W.ite b x y).run Φ = ((b = true → x.run Φ) ∧ (b = false → y.run Φ)) := propext ⟨fun h => h, fun h => h⟩
theorem run_if {b : Bool} {x y : W α} {Φ : α → Prop} : (W.ite b x y).run Φ = (if b = true then x.run Φ else y.run Φ) := by
  rw [run_ite]; cases b <;> simp
theorem run_mono {c : W α} {Φ Φ' : α → Prop} (h : c.run Φ) (k : ∀ a, Φ a → Φ' a) : c.run Φ' := c.mono _ _ k h
theorem atI_some {xs : List α} {i : Int} (h0 : 0 ≤ i) (h : i < xs.length) : ∃ a, a ∈ xs ∧ atI xs i = some a := by
  obtain ⟨j, rfl⟩ : ∃ j : Nat, i = j := ⟨i.toNat, by omega⟩
  have hj : j < xs.length := by omega
  exact ⟨xs[j], List.getElem_mem hj, atI_nat (List.getElem?_eq_getElem hj)⟩
theorem ixN_nat' {n : Nat} {i : Int} (h0 : 0 ≤ i) (h : i < n) : ixN n i = some i.toNat := by
  unfold ixN
  rw [if_pos h0, if_pos h]
theorem forL_wp (Inv : Nat → S → Prop) {xs : List α} {s : S} {f : α → S → W S} {Φ : S → Prop} (h0 : Inv 0 s) (step : ∀ i x s, xs[i]? = some x → Inv i s → (f x s).run (Inv (i + 1))) (k : ∀ s, Inv xs.length s → Φ s) : (W.forL xs s f).run Φ := by
  induction xs generalizing s Inv with
  | nil => exact k s h0
  | cons x xs ih =>
    show (f x s).run (fun s' => (W.forL xs s' f).run Φ)
    refine run_mono (step 0 x s rfl h0) fun s' h' => ?_
    exact ih (fun i => Inv (i + 1)) h' (fun i y s hy hi => step (i + 1) y s (by simpa using hy) hi) fun s hs => k s hs
theorem forC_wp (Inv : Nat → S → Prop) {xs : List α} {s : S} {f : α → S → W (Ctl ρ S)} {Φ : Ctl ρ S → Prop} (h0 : Inv 0 s)
    (step : ∀ i x s, xs[i]? = some x → Inv i s → (f x s).run (CtlP (Inv (i + 1)) (fun s => Φ (.nx s)) (fun r => Φ (.rt r)))) (k : ∀ s, Inv xs.length s → Φ (.nx s)) : (W.forC xs s f).run Φ := by
  induction xs generalizing s Inv with
  | nil => exact k s h0
  | cons x xs ih =>
    show (W.bind (f x s) _).run Φ
    rw [run_bind]
    refine run_mono (step 0 x s rfl h0) fun c hc => ?_
    cases c with
    | nx s' => exact ih (fun i => Inv (i + 1)) hc (fun i y s hy hi => step (i + 1) y s (by simpa using hy) hi) fun s hs => k s hs
    | bk s' => exact hc
    | rt r => exact hc
theorem comp_wp {xs : List α} {acc : List β} {ct : α → W Bool} {cf : α → W β} (t : α → Bool) (f : α → β) {Φ : List β → Prop} (ht : ∀ x ∈ xs, ∀ Ψ : Bool → Prop, Ψ (t x) → (ct x).run Ψ) (hf : ∀ x ∈ xs, t x = true → ∀ Ψ : β → Prop, Ψ (f x) → (cf x).run Ψ)
    (k : Φ (acc ++ (xs.filter t).map f)) : (comp xs acc ct cf).run Φ := by
  induction xs generalizing acc with
  | nil =>
    simp at k
    exact k
  | cons x xs ih =>
    refine ht x List.mem_cons_self _ ⟨fun e => ?_, fun e => ?_⟩
    · refine hf x List.mem_cons_self e _ (ih (fun y hy => ht y (List.mem_cons_of_mem _ hy)) (fun y hy => hf y (List.mem_cons_of_mem _ hy)) ?_)
      simpa [List.filter_cons, e] using k
    · refine ih (fun y hy => ht y (List.mem_cons_of_mem _ hy)) (fun y hy => hf y (List.mem_cons_of_mem _ hy)) ?_
      simpa [List.filter_cons, e] using k
theorem compG_wp {xs : List α} {ct : α → W Bool} {cf : α → W β} (t : α → Bool) (f : α → β) {Φ : List β → Prop} (hl : xs.length ≤ sizeLine) (ht : ∀ x ∈ xs, ∀ Ψ : Bool → Prop, Ψ (t x) → (ct x).run Ψ) (hf : ∀ x ∈ xs, t x = true → ∀ Ψ : β → Prop, Ψ (f x) → (cf x).run Ψ)
    (k : Φ ((xs.filter t).map f)) : (compG xs ct cf).run Φ := ⟨hl, comp_wp t f ht hf (by simpa using k)⟩
theorem small {n : Nat} (h : n ≤ 100000) : n ≤ sizeLine := Nat.le_trans h (by decide)
theorem small' {n : Nat} (h : n ≤ 100000) : n < sizeLine := Nat.lt_of_le_of_lt h (by decide)
theorem apd_wp {xs : List α} {x : α} {Φ : List α → Prop} (h : xs.length ≤ 100000) (k : Φ (xs ++ [x])) : (apd xs x).run Φ := ⟨small' h, k⟩
theorem sti_wp {xs : List α} {i : Int} {y : α} {Φ : List α → Prop} (h0 : 0 ≤ i) (h : i < xs.length) (k : Φ (xs.set i.toNat y)) : (sti xs i y).run Φ := ⟨i.toNat, ixN_nat' h0 h, k⟩
/-! slices -/
theorem sIx_none (n d : Nat) : HT.sIx n d none = d := HT.sIx_none n d
theorem cut_to {xs : List α} {k : Int} (h0 : 0 ≤ k) : cut xs none (some k) = xs.take k.toNat := by
  obtain ⟨j, rfl⟩ : ∃ j : Nat, k = j := ⟨k.toNat, by omega⟩
  unfold cut
  rw [HT.sIx_none, HT.sIx_nat]
  simp only [List.drop_zero, Nat.sub_zero, Int.toNat_natCast]
  by_cases h : j ≤ xs.length
  · rw [Nat.min_eq_left h]
  · rw [Nat.min_eq_right (by omega), List.take_of_length_le (Nat.le_refl _), List.take_of_length_le (by omega)]
theorem cut_from {xs : List α} {k : Int} (h0 : 0 ≤ k) : cut xs (some k) none = xs.drop k.toNat := by
  obtain ⟨j, rfl⟩ : ∃ j : Nat, k = j := ⟨k.toNat, by omega⟩
  unfold cut
  rw [HT.sIx_none, HT.sIx_nat]
  simp only [Int.toNat_natCast]
  by_cases h : j ≤ xs.length
  · rw [Nat.min_eq_left h, List.take_of_length_le (by simp)]
  · rw [Nat.min_eq_right (by omega)]
    simp
    omega
end
/-! ### equal data -/
/-- data that == tells apart as Lean does, and that may be compared -/
class Eqv (α : Type) [Py α] where
  eqv : ∀ x y : α, PyData.eqv (toPy x) (toPy y) = true ↔ x = y
  d : Nat
  shape : ∀ x : α, (toPy x).depth ≤ d
theorem eqvAll_map {α : Type} [Py α] [Eqv α] : ∀ xs ys : List α, PyData.eqvAll (xs.map Py.toPy) (ys.map Py.toPy) = true ↔ xs = ys
  | [], [] => by simp [PyData.eqvAll]
  | [], y :: ys => by simp [PyData.eqvAll]
  | x :: xs, [] => by simp [PyData.eqvAll]
  | x :: xs, y :: ys => by
    have h1 := Eqv.eqv x y
    have h2 := eqvAll_map xs ys
    simp only [List.map_cons, PyData.eqvAll, Bool.and_eq_true, List.cons.injEq]
    rw [← h1, ← h2]
theorem depthAll_map {α : Type} [Py α] [Eqv α] : ∀ xs : List α, PyData.depthAll (xs.map Py.toPy) ≤ Eqv.d α
  | [] => by simp [PyData.depthAll]
  | x :: xs => by
    have h1 := Eqv.shape x
    have h2 := depthAll_map xs
    simp only [List.map_cons, PyData.depthAll]
    exact Nat.max_le.mpr ⟨h1, h2⟩
instance : Eqv Int := ⟨fun x y => by simp [toPy, Py.toPy, PyData.eqv], 0, fun x => by simp [toPy, Py.toPy, PyData.depth]⟩
instance : Eqv Bool := ⟨fun x y => by simp [toPy, Py.toPy, PyData.eqv], 0, fun x => by simp [toPy, Py.toPy, PyData.depth]⟩
instance : Eqv Str := ⟨fun x y => by simp [toPy, Py.toPy, PyData.eqv], 0, fun x => by simp [toPy, Py.toPy, PyData.depth]⟩
instance {α : Type} [Py α] [Eqv α] : Eqv (List α) := ⟨fun x y => by
  show PyData.eqv (.list (x.map Py.toPy)) (.list (y.map Py.toPy)) = true ↔ x = y
  simp only [PyData.eqv]
  exact eqvAll_map x y, Eqv.d α + 1, fun x => by
  show PyData.depth (.list (x.map Py.toPy)) ≤ _
  simp only [PyData.depth]
  exact Nat.succ_le_succ (depthAll_map x)⟩
instance {α β : Type} [Py α] [Py β] [Eqv α] [Eqv β] : Eqv (α × β) := ⟨fun x y => by
  obtain ⟨x1, x2⟩ := x
  obtain ⟨y1, y2⟩ := y
  show PyData.eqv (.tuple [toPy x1, toPy x2]) (.tuple [toPy y1, toPy y2]) = true ↔ _
  simp only [PyData.eqv, PyData.eqvAll, Bool.and_eq_true, Bool.and_true, Prod.mk.injEq]
  rw [Eqv.eqv x1 y1, Eqv.eqv x2 y2], Eqv.d α + Eqv.d β + 1, fun x => by
  obtain ⟨x1, x2⟩ := x
  show PyData.depth (.tuple [toPy x1, toPy x2]) ≤ _
  have h1 := Eqv.shape x1
  have h2 := Eqv.shape x2
  simp only [PyData.depth, PyData.depthAll]
  omega⟩
instance {α β γ : Type} [Py α] [Py β] [Py γ] [Eqv α] [Eqv β] [Eqv γ] : Eqv (P3 α β γ) := ⟨fun x y => by
  obtain ⟨x1, x2, x3⟩ := x
  obtain ⟨y1, y2, y3⟩ := y
  show PyData.eqv (.tuple [toPy x1, toPy x2, toPy x3]) (.tuple [toPy y1, toPy y2, toPy y3]) = true ↔ _
  simp only [PyData.eqv, PyData.eqvAll, Bool.and_eq_true, Bool.and_true, P3.mk.injEq]
  rw [Eqv.eqv x1 y1, Eqv.eqv x2 y2, Eqv.eqv x3 y3], Eqv.d α + Eqv.d β + Eqv.d γ + 1, fun x => by
  obtain ⟨x1, x2, x3⟩ := x
  show PyData.depth (.tuple [toPy x1, toPy x2, toPy x3]) ≤ _
  have h1 := Eqv.shape x1
  have h2 := Eqv.shape x2
  have h3 := Eqv.shape x3
  simp only [PyData.depth, PyData.depthAll]
  omega⟩
instance {α β γ δ : Type} [Py α] [Py β] [Py γ] [Py δ] [Eqv α] [Eqv β] [Eqv γ] [Eqv δ] : Eqv (P4 α β γ δ) := ⟨fun x y => by
  obtain ⟨x1, x2, x3, x4⟩ := x
  obtain ⟨y1, y2, y3, y4⟩ := y
  show PyData.eqv (.tuple [toPy x1, toPy x2, toPy x3, toPy x4]) (.tuple [toPy y1, toPy y2, toPy y3, toPy y4]) = true ↔ _
  simp only [PyData.eqv, PyData.eqvAll, Bool.and_eq_true, Bool.and_true, P4.mk.injEq]
  rw [Eqv.eqv x1 y1, Eqv.eqv x2 y2, Eqv.eqv x3 y3, Eqv.eqv x4 y4], Eqv.d α + Eqv.d β + Eqv.d γ + Eqv.d δ + 1, fun x => by
  obtain ⟨x1, x2, x3, x4⟩ := x
  show PyData.depth (.tuple [toPy x1, toPy x2, toPy x3, toPy x4]) ≤ _
  have h1 := Eqv.shape x1
  have h2 := Eqv.shape x2
  have h3 := Eqv.shape x3
  have h4 := Eqv.shape x4
  simp only [PyData.depth, PyData.depthAll]
  omega⟩
theorem eqD_iff {α : Type} [Py α] [Eqv α] {x y : α} : eqD x y = true ↔ x = y := Eqv.eqv x y
theorem eqD_dec {α : Type} [Py α] [Eqv α] [DecidableEq α] {x y : α} : eqD x y = decide (x = y) := by
  by_cases h : x = y
  · rw [decide_eq_true h]; exact eqD_iff.mpr h
  · rw [decide_eq_false h]
    cases e : eqD x y with
    | false => rfl
    | true => exact absurd (eqD_iff.mp e) h
theorem eqD_self {α : Type} [Py α] [Eqv α] (x : α) : eqD x x = true := eqD_iff.mpr rfl
/-- what may be laid at all: the texts in it are of signs that there are -/
class Lay (α : Type) [Py α] where
  ok : α → Prop
  lay : ∀ x : α, ok x → (toPy x).canLay0 = true
theorem canLayAll_map {α : Type} [Py α] [Lay α] : ∀ xs : List α, (∀ x ∈ xs, Lay.ok x) → PyData.canLayAll0 (xs.map Py.toPy) = true
  | [], _ => by simp [PyData.canLayAll0]
  | x :: xs, h => by
    simp only [List.map_cons, PyData.canLayAll0, Bool.and_eq_true]
    exact ⟨Lay.lay x (h x List.mem_cons_self), canLayAll_map xs fun y hy => h y (List.mem_cons_of_mem _ hy)⟩
instance : Lay Int := ⟨fun _ => True, fun x _ => by simp [toPy, Py.toPy, PyData.canLay0]⟩
instance : Lay Bool := ⟨fun _ => True, fun x _ => by simp [toPy, Py.toPy, PyData.canLay0]⟩
instance : Lay Str := ⟨fun x => PyData.strOk x = true, fun x h => by simpa [toPy, Py.toPy, PyData.canLay0] using h⟩
instance {α : Type} [Py α] [Lay α] : Lay (List α) := ⟨fun xs => ∀ x ∈ xs, Lay.ok x, fun xs h => by
  show PyData.canLay0 (.list (xs.map Py.toPy)) = true
  simp only [PyData.canLay0]
  exact canLayAll_map xs h⟩
instance {α β : Type} [Py α] [Py β] [Lay α] [Lay β] : Lay (α × β) := ⟨fun x => Lay.ok x.1 ∧ Lay.ok x.2, fun x h => by
  show PyData.canLay0 (.tuple [toPy x.1, toPy x.2]) = true
  simp only [PyData.canLay0, PyData.canLayAll0, Bool.and_eq_true, Bool.and_true]
  exact ⟨Lay.lay _ h.1, Lay.lay _ h.2⟩⟩
instance {α β γ : Type} [Py α] [Py β] [Py γ] [Lay α] [Lay β] [Lay γ] : Lay (P3 α β γ) := ⟨fun x => Lay.ok x.a ∧ Lay.ok x.b ∧ Lay.ok x.c, fun x h => by
  show PyData.canLay0 (.tuple [toPy x.a, toPy x.b, toPy x.c]) = true
  simp only [PyData.canLay0, PyData.canLayAll0, Bool.and_eq_true, Bool.and_true]
  exact ⟨Lay.lay _ h.1, Lay.lay _ h.2.1, Lay.lay _ h.2.2⟩⟩
instance {α β γ δ : Type} [Py α] [Py β] [Py γ] [Py δ] [Lay α] [Lay β] [Lay γ] [Lay δ] : Lay (P4 α β γ δ) := ⟨fun x => Lay.ok x.a ∧ Lay.ok x.b ∧ Lay.ok x.c ∧ Lay.ok x.d, fun x h => by
  show PyData.canLay0 (.tuple [toPy x.a, toPy x.b, toPy x.c, toPy x.d]) = true
  simp only [PyData.canLay0, PyData.canLayAll0, Bool.and_eq_true, Bool.and_true]
  exact ⟨Lay.lay _ h.1, Lay.lay _ h.2.1, Lay.lay _ h.2.2.1, Lay.lay _ h.2.2.2⟩⟩
theorem okD_of {α : Type} [Py α] [Eqv α] [Lay α] {x : α} (h : Lay.ok x) (hd : Eqv.d α ≤ 64 := by decide) : okD x := by
  unfold okD SeqAt.shaped
  rw [Bool.and_eq_true]
  exact ⟨Lay.lay x h, decide_eq_true (Nat.le_trans (Eqv.shape x) hd)⟩
/-- kinds in which no text stands -/
class Pl (α : Type) [Py α] : Prop where
  lay : ∀ x : α, (toPy x).canLay0 = true
theorem plAll {α : Type} [Py α] [Pl α] : ∀ xs : List α, PyData.canLayAll0 (xs.map Py.toPy) = true
  | [] => by simp [PyData.canLayAll0]
  | x :: xs => by
    simp only [List.map_cons, PyData.canLayAll0, Bool.and_eq_true]
    exact ⟨Pl.lay x, plAll xs⟩
instance : Pl Int := ⟨fun x => by simp [toPy, Py.toPy, PyData.canLay0]⟩
instance : Pl Bool := ⟨fun x => by simp [toPy, Py.toPy, PyData.canLay0]⟩
instance : Pl Unit := ⟨fun x => by simp [toPy, Py.toPy, PyData.canLay0]⟩
instance {α : Type} [Py α] [Pl α] : Pl (List α) := ⟨fun xs => by
  show PyData.canLay0 (.list (xs.map Py.toPy)) = true
  simp only [PyData.canLay0]
  exact plAll xs⟩
instance {α : Type} [Py α] [Pl α] : Pl (Option α) := ⟨fun x => by
  cases x with
  | none => show PyData.canLay0 .none = true; simp [PyData.canLay0]
  | some a => exact Pl.lay a⟩
instance {α β : Type} [Py α] [Py β] [Pl α] [Pl β] : Pl (α × β) := ⟨fun x => by
  show PyData.canLay0 (.tuple [toPy x.1, toPy x.2]) = true
  simp only [PyData.canLay0, PyData.canLayAll0, Bool.and_eq_true, Bool.and_true]
  exact ⟨Pl.lay _, Pl.lay _⟩⟩
instance {α β γ : Type} [Py α] [Py β] [Py γ] [Pl α] [Pl β] [Pl γ] : Pl (P3 α β γ) := ⟨fun x => by
  show PyData.canLay0 (.tuple [toPy x.a, toPy x.b, toPy x.c]) = true
  simp only [PyData.canLay0, PyData.canLayAll0, Bool.and_eq_true, Bool.and_true]
  exact ⟨Pl.lay _, Pl.lay _, Pl.lay _⟩⟩
instance {α β γ δ : Type} [Py α] [Py β] [Py γ] [Py δ] [Pl α] [Pl β] [Pl γ] [Pl δ] : Pl (P4 α β γ δ) := ⟨fun x => by
  show PyData.canLay0 (.tuple [toPy x.a, toPy x.b, toPy x.c, toPy x.d]) = true
  simp only [PyData.canLay0, PyData.canLayAll0, Bool.and_eq_true, Bool.and_true]
  exact ⟨Pl.lay _, Pl.lay _, Pl.lay _, Pl.lay _⟩⟩
/-- kinds that are never None -/
class Nn (α : Type) [Py α] : Prop where
  ne : ∀ x : α, toPy x ≠ .none
  l : ∀ x : α, PyData.eqv (toPy x) .none = false
  r : ∀ x : α, PyData.eqv .none (toPy x) = false
instance : Nn Int := ⟨fun x e => (by cases e), fun x => (by simp [toPy, Py.toPy, PyData.eqv]), fun x => (by simp [toPy, Py.toPy, PyData.eqv])⟩
instance : Nn Bool := ⟨fun x e => (by cases e), fun x => (by simp [toPy, Py.toPy, PyData.eqv]), fun x => (by simp [toPy, Py.toPy, PyData.eqv])⟩
instance : Nn Str := ⟨fun x e => (by cases e), fun x => (by simp [toPy, Py.toPy, PyData.eqv]), fun x => (by simp [toPy, Py.toPy, PyData.eqv])⟩
instance {α : Type} [Py α] : Nn (List α) := ⟨fun x e => (by cases e), fun x => (by simp [toPy, Py.toPy, PyData.eqv]), fun x => (by simp [toPy, Py.toPy, PyData.eqv])⟩
instance {α β : Type} [Py α] [Py β] : Nn (α × β) := ⟨fun x e => (by cases e), fun x => (by simp [toPy, Py.toPy, PyData.eqv]), fun x => (by simp [toPy, Py.toPy, PyData.eqv])⟩
instance {α β γ : Type} [Py α] [Py β] [Py γ] : Nn (P3 α β γ) := ⟨fun x e => (by cases e), fun x => (by simp [toPy, Py.toPy, PyData.eqv]), fun x => (by simp [toPy, Py.toPy, PyData.eqv])⟩
instance {α β γ δ : Type} [Py α] [Py β] [Py γ] [Py δ] : Nn (P4 α β γ δ) := ⟨fun x e => (by cases e), fun x => (by simp [toPy, Py.toPy, PyData.eqv]), fun x => (by simp [toPy, Py.toPy, PyData.eqv])⟩
theorem nn {α : Type} [Py α] [Nn α] {x : Option α} : ∀ b : α, x = some b → toPy b ≠ .none := fun b _ => Nn.ne b
instance {α : Type} [Py α] [Eqv α] [Nn α] : Eqv (Option α) := ⟨fun x y => by
  cases x with
  | none =>
    cases y with
    | none => show PyData.eqv .none .none = true ↔ _; simp [PyData.eqv]
    | some b => show PyData.eqv .none (toPy b) = true ↔ _; rw [Nn.r]; simp
  | some a =>
    cases y with
    | none => show PyData.eqv (toPy a) .none = true ↔ _; rw [Nn.l]; simp
    | some b => show PyData.eqv (toPy a) (toPy b) = true ↔ _; rw [Eqv.eqv a b]; simp, Eqv.d α, fun x => by
  cases x with
  | none => show PyData.depth .none ≤ _; simp [PyData.depth]
  | some a => exact Eqv.shape a⟩
theorem okD_pl {α : Type} [Py α] [Eqv α] [Pl α] (x : α) (hd : Eqv.d α ≤ 64 := by decide) : okD x := by
  unfold okD SeqAt.shaped
  rw [Bool.and_eq_true]
  exact ⟨Pl.lay x, decide_eq_true (Nat.le_trans (Eqv.shape x) hd)⟩
theorem inD_iff {α : Type} [Py α] [Eqv α] {x : α} {ys : List α} : inD x ys = true ↔ x ∈ ys := by
  unfold inD
  rw [List.any_eq_true]
  constructor
  · rintro ⟨y, hy, e⟩
    rw [← eqD_iff.mp e]; exact hy
  · intro h
    exact ⟨x, h, eqD_self x⟩
theorem inD_dec {α : Type} [Py α] [Eqv α] [DecidableEq α] {x : α} {ys : List α} : inD x ys = decide (x ∈ ys) := by
  by_cases h : x ∈ ys
  · rw [decide_eq_true h]; exact inD_iff.mpr h
  · rw [decide_eq_false h]
    cases e : inD x ys with
    | false => rfl
    | true => exact absurd (inD_iff.mp e) h
end Z
namespace M
open PySem L2 Z
def subT_ValueError : Nat → Bool
  | 0 => true
  | 1 => true
  | 2 => true
  | 3 => true
  | _ => true
def sub_Held : Nat → Bool
  | 0 => false
  | 1 => false
  | 2 => false
  | 3 => true
  | _ => false
def sub_NoCut : Nat → Bool
  | 0 => false
  | 1 => false
  | 2 => false
  | 3 => false
  | _ => false
def sub_Over : Nat → Bool
  | 0 => false
  | 1 => true
  | 2 => false
  | 3 => false
  | _ => false
def sub_NoNote : Nat → Bool
  | 0 => false
  | 1 => false
  | 2 => true
  | 3 => false
  | _ => false
def sub_NoHand : Nat → Bool
  | 0 => true
  | 1 => false
  | 2 => false
  | 3 => false
  | _ => true
def sub_NoteError : Nat → Bool
  | 0 => true
  | 1 => true
  | 2 => true
  | 3 => true
  | _ => true
structure ObHand where
  rows : (List PyData)
  at_ : Int
  held : (List Int)
  spoken : (List Int)
  way : Str
def ns_Hand : List Str := ["rows", "at", "held", "spoken", "way"]
def OC_Hand (K : PySem.W.Frag) (Ho : Hp) (v : V) (x : ObHand) (g : Grp) : Prop := ∃ (a dx C : Addr) (v0 v1 v2 v3 v4 : V) (g2 g3 : Grp), v = .ref a ∧ PySem.W.nsIn K mainGlobals "Hand" = some (some (.ref C)) ∧ Z.D K Ho v0 x.rows ∧ Z.D K Ho v1 x.at_ ∧ OL K Ho v2 x.held g2 ∧ OL K Ho v3 x.spoken g3 ∧ Z.D K Ho v4 x.way ∧ g = rowG [[(a, HO.ins C dx (ns_Hand.zip [v0, v1, v2, v3, v4]))], g2, g3] []
theorem OC_Hand.mo {K : PySem.W.Frag} {Ho : Hp} {Ho2 : Hp} {v : V} {x : ObHand} {g : Grp} (h : OC_Hand K Ho v x g) (e : Same Ho Ho2) : OC_Hand K Ho2 v x g := by
  obtain ⟨a, dx, C, v0, v1, v2, v3, v4, g2, g3, rfl, hC, d0, d1, d2, d3, d4, rfl⟩ := h
  exact ⟨a, dx, C, v0, v1, v2, v3, v4, g2, g3, rfl, hC, D.mo d0 e, D.mo d1 e, OL.mo d2 e, OL.mo d3 e, D.mo d4 e, rfl⟩
theorem OC_Hand.op {K : PySem.W.Frag} {H : Hp} {Ho : Hp} {v : V} {x : ObHand} {g : Grp} {R : Grp} {q : Addr} {P : Prop} (c : CF K q "Hand" ns_Hand) (o : OC_Hand K Ho v x g) (z : Zs (g ++ R) H Ho) (k : ∀ (a dx : Addr) (v0 v1 v2 v3 v4 : V) (g2 g3 : Grp), v = .ref a → g = rowG [[(a, HO.ins q dx (ns_Hand.zip [v0, v1, v2, v3, v4]))], g2, g3] [] → Z.D K Ho v0 x.rows → Z.D K Ho v1 x.at_ → OL K Ho v2 x.held g2 → OL K Ho v3 x.spoken g3 → Z.D K Ho v4 x.way → Zs ([(a, HO.ins q dx (ns_Hand.zip [v0, v1, v2, v3, v4]))] ++ (g2 ++ (g3 ++ R))) H Ho → P) : P := by
  obtain ⟨a, dx, C, v0, v1, v2, v3, v4, g2, g3, rfl, hC, d0, d1, d2, d3, d4, rfl⟩ := o
  obtain rfl := c.eq hC
  rw [rowG_app] at z
  exact k a dx v0 v1 v2 v3 v4 g2 g3 rfl rfl d0 d1 d2 d3 d4 z
theorem OC_Hand.cl {K : PySem.W.Frag} {H : Hp} {Ho : Hp} {x : ObHand} {R : Grp} {q : Addr} {P : Prop} {a dx : Addr} {v0 v1 v2 v3 v4 : V} {g2 g3 : Grp} (c : CF K q "Hand" ns_Hand) (d0 : Z.D K Ho v0 x.rows) (d1 : Z.D K Ho v1 x.at_) (d2 : OL K Ho v2 x.held g2) (d3 : OL K Ho v3 x.spoken g3) (d4 : Z.D K Ho v4 x.way) (z : Zs ([(a, HO.ins q dx (ns_Hand.zip [v0, v1, v2, v3, v4]))] ++ (g2 ++ (g3 ++ R))) H Ho) (k : ∀ g, OC_Hand K Ho (.ref a) x g → Zs (g ++ R) H Ho → P) : P := k _ ⟨a, dx, q, v0, v1, v2, v3, v4, g2, g3, rfl, c.at_, d0, d1, d2, d3, d4, rfl⟩ (by rw [rowG_app]; exact z)
def BC_Hand (K : PySem.W.Frag) (R : Grp) (Ho : Hp) (v : V) (x : ObHand) : Prop := ∃ g, OC_Hand K Ho v x g ∧ ∀ r ∈ g, r ∈ R
theorem BC_Hand.mo {K : PySem.W.Frag} {Ho : Hp} {Ho2 : Hp} {v : V} {x : ObHand} {R : Grp} (h : BC_Hand K R Ho v x) (e : Same Ho Ho2) : BC_Hand K R Ho2 v x := by
  obtain ⟨g, o, m⟩ := h
  exact ⟨g, o.mo e, m⟩
theorem BC_Hand.sub {K : PySem.W.Frag} {Ho : Hp} {v : V} {x : ObHand} {R : Grp} {R2 : Grp} (h : BC_Hand K R Ho v x) (e : ∀ r ∈ R, r ∈ R2) : BC_Hand K R2 Ho v x := by
  obtain ⟨g, o, m⟩ := h
  exact ⟨g, o, fun r hr => e r (m r hr)⟩
theorem OC_Hand.rd {K : PySem.W.Frag} {Ho : Hp} {v : V} {x : ObHand} {g : Grp} {R : Grp} {q : Addr} {P : Prop} (c : CF K q "Hand" ns_Hand) (o : OC_Hand K Ho v x g) (m : ∀ r ∈ g, r ∈ R) (k : ∀ (a dx : Addr) (v0 v1 v2 v3 v4 : V) (g2 g3 : Grp), v = .ref a → Z.D K Ho v0 x.rows → Z.D K Ho v1 x.at_ → OL K Ho v2 x.held g2 → OL K Ho v3 x.spoken g3 → Z.D K Ho v4 x.way → (∀ r ∈ ([(a, HO.ins q dx (ns_Hand.zip [v0, v1, v2, v3, v4]))] : Grp), r ∈ R) → (∀ r ∈ g2, r ∈ R) → (∀ r ∈ g3, r ∈ R) → P) : P := by
  obtain ⟨a, dx, C, v0, v1, v2, v3, v4, g2, g3, rfl, hC, d0, d1, d2, d3, d4, rfl⟩ := o
  obtain rfl := c.eq hC
  exact k a dx v0 v1 v2 v3 v4 g2 g3 rfl d0 d1 d2 d3 d4 (fun r h => m r (mg0 r h)) (fun r h => m r ((mgS mg0) r h)) (fun r h => m r ((mgS (mgS mg0)) r h))
instance : Py ObHand := ⟨fun x => pyIns "Hand" ns_Hand [toPy x.rows, toPy x.at_, toPy x.held, toPy x.spoken, toPy x.way]⟩
instance : OwnD OC_Hand where
  mo := fun o e => OC_Hand.mo o e
  rd := fun o e m => by
    obtain ⟨a, dx, C, v0, v1, v2, v3, v4, g2, g3, rfl, hC, d0, d1, d2, d3, d4, rfl⟩ := o
    exact Dq.ins hC (m _ (List.mem_append_left _ List.mem_cons_self)) (DqAll.cons (D.mo d0 e) (DqAll.cons (D.mo d1 e) (DqAll.cons (OwnD.rd (P := OL) d2 e (fun r h => m r (List.mem_append_right _ (List.mem_append_left _ h)))) (DqAll.cons (OwnD.rd (P := OL) d3 e (fun r h => m r (List.mem_append_right _ (List.mem_append_right _ (List.mem_append_left _ h))))) (DqAll.cons (D.mo d4 e) DqAll.nil)))))
theorem BC_Hand.rd {K : PySem.W.Frag} {H : Hp} {Ho : Hp} {v : V} {x : ObHand} {R : Grp} (h : BC_Hand K R Ho v x) (z : Zs R H Ho) : Z.D K H v x := by
  obtain ⟨g, o, m⟩ := h
  exact OwnD.rd (P := OC_Hand) o z.le (z.in_ m)
theorem OC_Hand.f_way {K : PySem.W.Frag} {H : Hp} {Ho : Hp} {v : V} {x : ObHand} {g : Grp} {R : Grp} {q : Addr} {Q : VK} (c : CF K q "Hand" ns_Hand) (o : OC_Hand K Ho v x g) (m : ∀ r ∈ g, r ∈ R) (z : Zs R H Ho) (k : ∀ u, Z.D K Ho u x.way → Q u H) : FldK K Q "way" v H := by
  obtain ⟨a, dx, C, v0, v1, v2, v3, v4, g2, g3, rfl, hC, d0, d1, d2, d3, d4, rfl⟩ := o
  obtain rfl := c.eq hC
  exact o_fld (i := 4) c (fun r h => m r (List.mem_append_left _ h)) z rfl rfl (k _ d4)
structure ObWorks where
  shared : (List Int)
  team : (List ObHand)
  past : (List Int)
def ns_Works : List Str := ["shared", "team", "past"]
def OC_Works (K : PySem.W.Frag) (Ho : Hp) (v : V) (x : ObWorks) (g : Grp) : Prop := ∃ (a dx C : Addr) (v0 v1 v2 : V) (g0 g1 g2 : Grp), v = .ref a ∧ PySem.W.nsIn K mainGlobals "Works" = some (some (.ref C)) ∧ OL K Ho v0 x.shared g0 ∧ OLo OC_Hand K Ho v1 x.team g1 ∧ OL K Ho v2 x.past g2 ∧ g = rowG [[(a, HO.ins C dx (ns_Works.zip [v0, v1, v2]))], g0, g1, g2] []
theorem OC_Works.mo {K : PySem.W.Frag} {Ho : Hp} {Ho2 : Hp} {v : V} {x : ObWorks} {g : Grp} (h : OC_Works K Ho v x g) (e : Same Ho Ho2) : OC_Works K Ho2 v x g := by
  obtain ⟨a, dx, C, v0, v1, v2, g0, g1, g2, rfl, hC, d0, d1, d2, rfl⟩ := h
  exact ⟨a, dx, C, v0, v1, v2, g0, g1, g2, rfl, hC, OL.mo d0 e, OLo.mo d1 e, OL.mo d2 e, rfl⟩
theorem OC_Works.op {K : PySem.W.Frag} {H : Hp} {Ho : Hp} {v : V} {x : ObWorks} {g : Grp} {R : Grp} {q : Addr} {P : Prop} (c : CF K q "Works" ns_Works) (o : OC_Works K Ho v x g) (z : Zs (g ++ R) H Ho) (k : ∀ (a dx : Addr) (v0 v1 v2 : V) (g0 g1 g2 : Grp), v = .ref a → g = rowG [[(a, HO.ins q dx (ns_Works.zip [v0, v1, v2]))], g0, g1, g2] [] → OL K Ho v0 x.shared g0 → OLo OC_Hand K Ho v1 x.team g1 → OL K Ho v2 x.past g2 → Zs ([(a, HO.ins q dx (ns_Works.zip [v0, v1, v2]))] ++ (g0 ++ (g1 ++ (g2 ++ R)))) H Ho → P) : P := by
  obtain ⟨a, dx, C, v0, v1, v2, g0, g1, g2, rfl, hC, d0, d1, d2, rfl⟩ := o
  obtain rfl := c.eq hC
  rw [rowG_app] at z
  exact k a dx v0 v1 v2 g0 g1 g2 rfl rfl d0 d1 d2 z
theorem OC_Works.cl {K : PySem.W.Frag} {H : Hp} {Ho : Hp} {x : ObWorks} {R : Grp} {q : Addr} {P : Prop} {a dx : Addr} {v0 v1 v2 : V} {g0 g1 g2 : Grp} (c : CF K q "Works" ns_Works) (d0 : OL K Ho v0 x.shared g0) (d1 : OLo OC_Hand K Ho v1 x.team g1) (d2 : OL K Ho v2 x.past g2) (z : Zs ([(a, HO.ins q dx (ns_Works.zip [v0, v1, v2]))] ++ (g0 ++ (g1 ++ (g2 ++ R)))) H Ho) (k : ∀ g, OC_Works K Ho (.ref a) x g → Zs (g ++ R) H Ho → P) : P := k _ ⟨a, dx, q, v0, v1, v2, g0, g1, g2, rfl, c.at_, d0, d1, d2, rfl⟩ (by rw [rowG_app]; exact z)
def BC_Works (K : PySem.W.Frag) (R : Grp) (Ho : Hp) (v : V) (x : ObWorks) : Prop := ∃ g, OC_Works K Ho v x g ∧ ∀ r ∈ g, r ∈ R
theorem BC_Works.mo {K : PySem.W.Frag} {Ho : Hp} {Ho2 : Hp} {v : V} {x : ObWorks} {R : Grp} (h : BC_Works K R Ho v x) (e : Same Ho Ho2) : BC_Works K R Ho2 v x := by
  obtain ⟨g, o, m⟩ := h
  exact ⟨g, o.mo e, m⟩
theorem BC_Works.sub {K : PySem.W.Frag} {Ho : Hp} {v : V} {x : ObWorks} {R : Grp} {R2 : Grp} (h : BC_Works K R Ho v x) (e : ∀ r ∈ R, r ∈ R2) : BC_Works K R2 Ho v x := by
  obtain ⟨g, o, m⟩ := h
  exact ⟨g, o, fun r hr => e r (m r hr)⟩
theorem OC_Works.rd {K : PySem.W.Frag} {Ho : Hp} {v : V} {x : ObWorks} {g : Grp} {R : Grp} {q : Addr} {P : Prop} (c : CF K q "Works" ns_Works) (o : OC_Works K Ho v x g) (m : ∀ r ∈ g, r ∈ R) (k : ∀ (a dx : Addr) (v0 v1 v2 : V) (g0 g1 g2 : Grp), v = .ref a → OL K Ho v0 x.shared g0 → OLo OC_Hand K Ho v1 x.team g1 → OL K Ho v2 x.past g2 → (∀ r ∈ ([(a, HO.ins q dx (ns_Works.zip [v0, v1, v2]))] : Grp), r ∈ R) → (∀ r ∈ g0, r ∈ R) → (∀ r ∈ g1, r ∈ R) → (∀ r ∈ g2, r ∈ R) → P) : P := by
  obtain ⟨a, dx, C, v0, v1, v2, g0, g1, g2, rfl, hC, d0, d1, d2, rfl⟩ := o
  obtain rfl := c.eq hC
  exact k a dx v0 v1 v2 g0 g1 g2 rfl d0 d1 d2 (fun r h => m r (mg0 r h)) (fun r h => m r ((mgS mg0) r h)) (fun r h => m r ((mgS (mgS mg0)) r h)) (fun r h => m r ((mgS (mgS (mgS mg0))) r h))
theorem OC_Works.met {K : PySem.W.Frag} {H : Hp} {Ho : Hp} {v : V} {x : ObWorks} {g : Grp} {R : Grp} {q : Addr} {f : Str} {G : V → Hp → Prop} (c : CF K q "Works" ns_Works) (o : OC_Works K Ho v x g) (m : ∀ r ∈ g, r ∈ R) (z : Zs R H Ho) (hn : f ∉ ns_Works) (k : G v H) : MetK q f G v H := by
  obtain ⟨a, dx, C, v0, v1, v2, g0, g1, g2, rfl, hC, d0, d1, d2, rfl⟩ := o
  obtain rfl := c.eq hC
  exact ⟨a, dx, _, rfl, (z.rt _ (m _ (List.mem_append_left _ List.mem_cons_self))).1, lk_none hn, k⟩
theorem BC_Works.met {K : PySem.W.Frag} {H : Hp} {Ho : Hp} {v : V} {x : ObWorks} {R : Grp} {q : Addr} {R2 : Grp} {f : Str} {G : V → Hp → Prop} (c : CF K q "Works" ns_Works) (h : BC_Works K R Ho v x) (m : ∀ r ∈ R, r ∈ R2) (z : Zs R2 H Ho) (hn : f ∉ ns_Works) (k : G v H) : MetK q f G v H := by
  obtain ⟨g, o, m0⟩ := h
  exact OC_Works.met c o (fun r hr => m r (m0 r hr)) z hn k
instance : Py ObWorks := ⟨fun x => pyIns "Works" ns_Works [toPy x.shared, toPy x.team, toPy x.past]⟩
instance : OwnD OC_Works where
  mo := fun o e => OC_Works.mo o e
  rd := fun o e m => by
    obtain ⟨a, dx, C, v0, v1, v2, g0, g1, g2, rfl, hC, d0, d1, d2, rfl⟩ := o
    exact Dq.ins hC (m _ (List.mem_append_left _ List.mem_cons_self)) (DqAll.cons (OwnD.rd (P := OL) d0 e (fun r h => m r (List.mem_append_right _ (List.mem_append_left _ h)))) (DqAll.cons (OwnD.rd (P := OLo OC_Hand) d1 e (fun r h => m r (List.mem_append_right _ (List.mem_append_right _ (List.mem_append_left _ h))))) (DqAll.cons (OwnD.rd (P := OL) d2 e (fun r h => m r (List.mem_append_right _ (List.mem_append_right _ (List.mem_append_right _ (List.mem_append_left _ h)))))) DqAll.nil)))
theorem BC_Works.rd {K : PySem.W.Frag} {H : Hp} {Ho : Hp} {v : V} {x : ObWorks} {R : Grp} (h : BC_Works K R Ho v x) (z : Zs R H Ho) : Z.D K H v x := by
  obtain ⟨g, o, m⟩ := h
  exact OwnD.rd (P := OC_Works) o z.le (z.in_ m)
structure ObReplay where
  going : ObWorks
  due : (List Int)
  ties : (List (P4 Int Int Int Int))
  gone : (List Int)
def ns_Replay : List Str := ["going", "due", "ties", "gone"]
def OC_Replay (K : PySem.W.Frag) (Ho : Hp) (v : V) (x : ObReplay) (g : Grp) : Prop := ∃ (a dx C : Addr) (v0 v1 v2 v3 : V) (g0 g1 g2 g3 : Grp), v = .ref a ∧ PySem.W.nsIn K mainGlobals "Replay" = some (some (.ref C)) ∧ OC_Works K Ho v0 x.going g0 ∧ OL K Ho v1 x.due g1 ∧ OL K Ho v2 x.ties g2 ∧ OL K Ho v3 x.gone g3 ∧ g = rowG [[(a, HO.ins C dx (ns_Replay.zip [v0, v1, v2, v3]))], g0, g1, g2, g3] []
theorem OC_Replay.mo {K : PySem.W.Frag} {Ho : Hp} {Ho2 : Hp} {v : V} {x : ObReplay} {g : Grp} (h : OC_Replay K Ho v x g) (e : Same Ho Ho2) : OC_Replay K Ho2 v x g := by
  obtain ⟨a, dx, C, v0, v1, v2, v3, g0, g1, g2, g3, rfl, hC, d0, d1, d2, d3, rfl⟩ := h
  exact ⟨a, dx, C, v0, v1, v2, v3, g0, g1, g2, g3, rfl, hC, OC_Works.mo d0 e, OL.mo d1 e, OL.mo d2 e, OL.mo d3 e, rfl⟩
theorem OC_Replay.op {K : PySem.W.Frag} {H : Hp} {Ho : Hp} {v : V} {x : ObReplay} {g : Grp} {R : Grp} {q : Addr} {P : Prop} (c : CF K q "Replay" ns_Replay) (o : OC_Replay K Ho v x g) (z : Zs (g ++ R) H Ho) (k : ∀ (a dx : Addr) (v0 v1 v2 v3 : V) (g0 g1 g2 g3 : Grp), v = .ref a → g = rowG [[(a, HO.ins q dx (ns_Replay.zip [v0, v1, v2, v3]))], g0, g1, g2, g3] [] → OC_Works K Ho v0 x.going g0 → OL K Ho v1 x.due g1 → OL K Ho v2 x.ties g2 → OL K Ho v3 x.gone g3 → Zs ([(a, HO.ins q dx (ns_Replay.zip [v0, v1, v2, v3]))] ++ (g0 ++ (g1 ++ (g2 ++ (g3 ++ R))))) H Ho → P) : P := by
  obtain ⟨a, dx, C, v0, v1, v2, v3, g0, g1, g2, g3, rfl, hC, d0, d1, d2, d3, rfl⟩ := o
  obtain rfl := c.eq hC
  rw [rowG_app] at z
  exact k a dx v0 v1 v2 v3 g0 g1 g2 g3 rfl rfl d0 d1 d2 d3 z
theorem OC_Replay.cl {K : PySem.W.Frag} {H : Hp} {Ho : Hp} {x : ObReplay} {R : Grp} {q : Addr} {P : Prop} {a dx : Addr} {v0 v1 v2 v3 : V} {g0 g1 g2 g3 : Grp} (c : CF K q "Replay" ns_Replay) (d0 : OC_Works K Ho v0 x.going g0) (d1 : OL K Ho v1 x.due g1) (d2 : OL K Ho v2 x.ties g2) (d3 : OL K Ho v3 x.gone g3) (z : Zs ([(a, HO.ins q dx (ns_Replay.zip [v0, v1, v2, v3]))] ++ (g0 ++ (g1 ++ (g2 ++ (g3 ++ R))))) H Ho) (k : ∀ g, OC_Replay K Ho (.ref a) x g → Zs (g ++ R) H Ho → P) : P := k _ ⟨a, dx, q, v0, v1, v2, v3, g0, g1, g2, g3, rfl, c.at_, d0, d1, d2, d3, rfl⟩ (by rw [rowG_app]; exact z)
def BC_Replay (K : PySem.W.Frag) (R : Grp) (Ho : Hp) (v : V) (x : ObReplay) : Prop := ∃ g, OC_Replay K Ho v x g ∧ ∀ r ∈ g, r ∈ R
theorem BC_Replay.mo {K : PySem.W.Frag} {Ho : Hp} {Ho2 : Hp} {v : V} {x : ObReplay} {R : Grp} (h : BC_Replay K R Ho v x) (e : Same Ho Ho2) : BC_Replay K R Ho2 v x := by
  obtain ⟨g, o, m⟩ := h
  exact ⟨g, o.mo e, m⟩
theorem BC_Replay.sub {K : PySem.W.Frag} {Ho : Hp} {v : V} {x : ObReplay} {R : Grp} {R2 : Grp} (h : BC_Replay K R Ho v x) (e : ∀ r ∈ R, r ∈ R2) : BC_Replay K R2 Ho v x := by
  obtain ⟨g, o, m⟩ := h
  exact ⟨g, o, fun r hr => e r (m r hr)⟩
theorem OC_Replay.rd {K : PySem.W.Frag} {Ho : Hp} {v : V} {x : ObReplay} {g : Grp} {R : Grp} {q : Addr} {P : Prop} (c : CF K q "Replay" ns_Replay) (o : OC_Replay K Ho v x g) (m : ∀ r ∈ g, r ∈ R) (k : ∀ (a dx : Addr) (v0 v1 v2 v3 : V) (g0 g1 g2 g3 : Grp), v = .ref a → OC_Works K Ho v0 x.going g0 → OL K Ho v1 x.due g1 → OL K Ho v2 x.ties g2 → OL K Ho v3 x.gone g3 → (∀ r ∈ ([(a, HO.ins q dx (ns_Replay.zip [v0, v1, v2, v3]))] : Grp), r ∈ R) → (∀ r ∈ g0, r ∈ R) → (∀ r ∈ g1, r ∈ R) → (∀ r ∈ g2, r ∈ R) → (∀ r ∈ g3, r ∈ R) → P) : P := by
  obtain ⟨a, dx, C, v0, v1, v2, v3, g0, g1, g2, g3, rfl, hC, d0, d1, d2, d3, rfl⟩ := o
  obtain rfl := c.eq hC
  exact k a dx v0 v1 v2 v3 g0 g1 g2 g3 rfl d0 d1 d2 d3 (fun r h => m r (mg0 r h)) (fun r h => m r ((mgS mg0) r h)) (fun r h => m r ((mgS (mgS mg0)) r h)) (fun r h => m r ((mgS (mgS (mgS mg0))) r h)) (fun r h => m r ((mgS (mgS (mgS (mgS mg0)))) r h))
theorem OC_Replay.bo {K : PySem.W.Frag} {Ho : Hp} {x : ObReplay} {R : Grp} {q : Addr} {a dx : Addr} {v0 v1 v2 v3 : V} {g0 g1 g2 g3 : Grp} (c : CF K q "Replay" ns_Replay) (d0 : OC_Works K Ho v0 x.going g0) (d1 : OL K Ho v1 x.due g1) (d2 : OL K Ho v2 x.ties g2) (d3 : OL K Ho v3 x.gone g3) (mi : ∀ r ∈ ([(a, HO.ins q dx (ns_Replay.zip [v0, v1, v2, v3]))] : Grp), r ∈ R) (mg0 : ∀ r ∈ g0, r ∈ R) (mg1 : ∀ r ∈ g1, r ∈ R) (mg2 : ∀ r ∈ g2, r ∈ R) (mg3 : ∀ r ∈ g3, r ∈ R) : BC_Replay K R Ho (.ref a) x := ⟨_, ⟨a, dx, q, v0, v1, v2, v3, g0, g1, g2, g3, rfl, c.at_, d0, d1, d2, d3, rfl⟩, fun r h => (List.mem_append.mp h).elim (fun h => mi r h) (fun h => (List.mem_append.mp h).elim (fun h => mg0 r h) (fun h => (List.mem_append.mp h).elim (fun h => mg1 r h) (fun h => (List.mem_append.mp h).elim (fun h => mg2 r h) (fun h => (List.mem_append.mp h).elim (fun h => mg3 r h) (fun h => nomatch h)))))⟩
theorem OC_Replay.met {K : PySem.W.Frag} {H : Hp} {Ho : Hp} {v : V} {x : ObReplay} {g : Grp} {R : Grp} {q : Addr} {f : Str} {G : V → Hp → Prop} (c : CF K q "Replay" ns_Replay) (o : OC_Replay K Ho v x g) (m : ∀ r ∈ g, r ∈ R) (z : Zs R H Ho) (hn : f ∉ ns_Replay) (k : G v H) : MetK q f G v H := by
  obtain ⟨a, dx, C, v0, v1, v2, v3, g0, g1, g2, g3, rfl, hC, d0, d1, d2, d3, rfl⟩ := o
  obtain rfl := c.eq hC
  exact ⟨a, dx, _, rfl, (z.rt _ (m _ (List.mem_append_left _ List.mem_cons_self))).1, lk_none hn, k⟩
def m_is_touch (counts_ : (List Int)) (hand_ : Int) (k_ : Int) : W (Bool) :=
  W.bind (W.ite (decide ((0 : Int) ≤ hand_)) (W.bind (W.ite (decide (hand_ < ((counts_).length : Int))) (W.bind (W.ite (decide ((0 : Int) ≤ k_)) (W.bind (W.opt (atI counts_ hand_)) fun t1 => W.ret (decide (k_ < t1))) (W.ret false)) (fun t3 => W.ret t3)) (W.ret false)) (fun t7 => W.ret t7)) (W.ret false)) (fun t11 => W.ret t11)
def m_need_record_L1 (counts_ : (List Int)) (hand_ : Int) (k_ : Int) (other_ : Int) (m_ : Int) : W (Ctl (Ex Unit) (Unit)) :=
  W.bind (W.ite (decide (hand_ = other_)) (W.ret true) (W.bind (m_is_touch counts_ hand_ k_) fun t2 => W.bind (W.ite (!t2) (W.ret true) (W.bind (m_is_touch counts_ other_ m_) fun t6 => W.ret (!t6))) (fun t10 => W.ret t10))) (fun t14 => W.ite t14 (W.ret (Ctl.rt (Ex.er ⟨2, .none⟩))) (W.ret (Ctl.nx ())))
def m_need_record (record_ : ((List Int) × (List (P4 Int Int Int Int)))) : W (Ex Unit) :=
  W.bind (W.ret record_.1) fun record__0_ => W.bind (W.ret record_.2) fun record__1_ => W.bind (W.ret record__0_) fun counts_ => W.bind (W.ret record__1_) fun some_ => W.bind (W.forC some_ () (fun a s => m_need_record_L1 counts_ a.a a.b a.c a.d)) fun c => W.after c (fun _ => W.ret (Ex.ok ()))
def m_first_numbers_L1 (number_ : Int) : W (Unit) :=
  W.ite ((decide (number_ < (0 : Int))) || (decide (number_ ≥ (1000 : Int)))) (W.bad) (W.ret (()))
def m_first_numbers (many_ : Int) (numbers_ : (Option (List Int))) : W ((List Int)) :=
  W.guard (∀ b, numbers_ = some b → toPy b ≠ .none) (W.ite (numbers_.isNone) (W.guard (repG ([(0 : Int)] : (List Int)) many_) (W.ret (repL ([(0 : Int)] : (List Int)) many_))) (W.bind (W.opt numbers_) fun t9 => W.ite (!decide (((t9).length : Int) = many_)) (W.bad) (W.bind (W.opt numbers_) fun t11 => W.bind (W.forL t11 () (fun a s => m_first_numbers_L1 a)) (fun _ => W.bind (W.opt numbers_) fun t15 => W.ret t15))))
def m_Hand___init__ (rows_ : (List PyData)) : W (ObHand) :=
  W.bind (W.ret rows_) fun self__rows_ => W.bind (W.ret (0 : Int)) fun self__at_ => W.guard ((("abcdefgh" : Str)).length ≤ sizeLine) (W.guard (repG ([(0 : Int)] : (List Int)) ((("abcdefgh" : Str)).length : Int)) (W.bind (W.ret (repL ([(0 : Int)] : (List Int)) ((("abcdefgh" : Str)).length : Int))) fun self__held_ => W.bind (W.ret ([] : (List Int))) fun self__spoken_ => W.bind (W.ret ("waits" : Str)) fun self__way_ => W.ret (⟨self__rows_, self__at_, self__held_, self__spoken_, self__way_⟩ : ObHand)))
def m_put_in (hand_ : ObHand) (box_ : Str) (number_ : Int) : W (Unit × ObHand) :=
  W.bind (W.ret hand_.rows) fun hand__rows_ => W.bind (W.ret hand_.at_) fun hand__at_ => W.bind (W.ret hand_.held) fun hand__held_ => W.bind (W.ret hand_.spoken) fun hand__spoken_ => W.bind (W.ret hand_.way) fun hand__way_ => W.bind (W.opt (sIdx ("abcdefgh" : Str) box_)) fun t2 => W.bind (sti hand__held_ t2 number_) fun hand__held_ => W.ret ((), (⟨hand__rows_, hand__at_, hand__held_, hand__spoken_, hand__way_⟩ : ObHand))
def m_worth_now_R : Nat → (List Int) → PyData → W (Int)
  | 0, _, _ => W.bad
  | n + 1, held_, told_ =>
  W.bind (W.opt (pyIx told_ (0 : Int))) fun t1 => W.guard (okD t1 ∧ okD ("number" : Str)) (W.ite (eqD t1 ("number" : Str)) (W.bind (W.opt (pyIx told_ (1 : Int))) fun t3 => W.bind (W.opt (Fr.fr t3 : Option Int)) fun t5 => W.ret t5) (W.bind (W.opt (pyIx told_ (0 : Int))) fun t7 => W.guard (okD t7 ∧ okD ("box" : Str)) (W.ite (eqD t7 ("box" : Str)) (W.bind (W.opt (pyIx told_ (1 : Int))) fun t9 => W.bind (W.opt (Fr.fr t9 : Option Str)) fun t11 => W.bind (W.opt (sIdx ("abcdefgh" : Str) t11)) fun t13 => W.bind (W.opt (atI held_ t13)) fun t14 => W.ret t14) (W.bind (W.opt (pyIx told_ (0 : Int))) fun t16 => W.guard (okD t16 ∧ okD ("plus" : Str)) (W.ite (eqD t16 ("plus" : Str)) (W.bind (W.opt (pyIx told_ (1 : Int))) fun t18 => W.bind (m_worth_now_R n held_ t18) fun t20 => W.bind (W.opt (pyIx told_ (2 : Int))) fun t24 => W.bind (m_worth_now_R n held_ t24) fun t26 => W.guard (0 < (1000 : Int)) (W.ret ((t20 + t26) % (1000 : Int)))) (W.bind (W.opt (pyIx told_ (1 : Int))) fun t30 => W.bind (m_worth_now_R n held_ t30) fun t32 => W.bind (W.opt (pyIx told_ (2 : Int))) fun t36 => W.bind (m_worth_now_R n held_ t36) fun t38 => W.guard (0 < (1000 : Int)) (W.ret ((t32 - t38) % (1000 : Int)))))))))
def m_worth_now (held_ : (List Int)) (told_ : PyData) : W (Int) := m_worth_now_R 3 held_ told_
def m_is_so (held_ : (List Int)) (sign_ : Str) (one_ : PyData) (other_ : PyData) : W (Bool) :=
  W.ite (decide (sign_ = ("=" : Str))) (W.bind (m_worth_now held_ one_) fun t1 => W.bind (m_worth_now held_ other_) fun t5 => W.ret (decide (t1 = t5))) (W.bind (m_worth_now held_ one_) fun t9 => W.bind (m_worth_now held_ other_) fun t13 => W.ret (decide (t9 < t13)))
def m_do_own (hand_ : ObHand) (row_ : PyData) : W (Unit × ObHand) :=
  W.bind (W.ret hand_.rows) fun hand__rows_ => W.bind (W.ret hand_.at_) fun hand__at_ => W.bind (W.ret hand_.held) fun hand__held_ => W.bind (W.ret hand_.spoken) fun hand__spoken_ => W.bind (W.ret hand_.way) fun hand__way_ => W.bind (W.ret (hand__at_ + (1 : Int))) fun hand__at_ => W.bind (W.opt (pyIx row_ (0 : Int))) fun t2 => W.guard (okD t2 ∧ okD ("let" : Str)) (W.ite (eqD t2 ("let" : Str)) (W.bind (W.opt (pyIx row_ (1 : Int))) fun t4 => W.bind (W.opt (Fr.fr t4 : Option Str)) fun t6 => W.bind (W.opt (pyIx row_ (2 : Int))) fun t8 => W.bind (m_worth_now hand__held_ t8) fun t10 => W.bind2 (m_put_in (⟨hand__rows_, hand__at_, hand__held_, hand__spoken_, hand__way_⟩ : ObHand) t6 t10) fun t16 hand_ => W.bind (W.ret hand_.rows) fun hand__rows_ => W.bind (W.ret hand_.at_) fun hand__at_ => W.bind (W.ret hand_.held) fun hand__held_ => W.bind (W.ret hand_.spoken) fun hand__spoken_ => W.bind (W.ret hand_.way) fun hand__way_ => W.ret ((), (⟨hand__rows_, hand__at_, hand__held_, hand__spoken_, hand__way_⟩ : ObHand))) (W.bind (W.opt (pyIx row_ (0 : Int))) fun t23 => W.guard (okD t23 ∧ okD ("say" : Str)) (W.ite (eqD t23 ("say" : Str)) (W.bind (W.opt (pyIx row_ (1 : Int))) fun t25 => W.bind (m_worth_now hand__held_ t25) fun t27 => W.bind (apd hand__spoken_ t27) fun hand__spoken_ => W.ret ((), (⟨hand__rows_, hand__at_, hand__held_, hand__spoken_, hand__way_⟩ : ObHand))) (W.bind (W.opt (pyIx row_ (0 : Int))) fun t33 => W.guard (okD t33 ∧ okD ("go" : Str)) (W.ite (eqD t33 ("go" : Str)) (W.bind (W.opt (pyIx row_ (1 : Int))) fun t35 => W.bind (W.opt (Fr.fr t35 : Option Int)) fun t37 => W.bind (W.ret t37) fun hand__at_ => W.ret ((), (⟨hand__rows_, hand__at_, hand__held_, hand__spoken_, hand__way_⟩ : ObHand))) (W.bind (W.opt (pyIx row_ (1 : Int))) fun t42 => W.bind (W.opt (Fr.fr t42 : Option Str)) fun t44 => W.bind (W.opt (pyIx row_ (2 : Int))) fun t46 => W.bind (W.opt (pyIx row_ (3 : Int))) fun t48 => W.bind (m_is_so hand__held_ t44 t46 t48) fun t50 => W.ite (!t50) (W.bind (W.opt (pyIx row_ (4 : Int))) fun t54 => W.bind (W.opt (Fr.fr t54 : Option Int)) fun t56 => W.bind (W.ret t56) fun hand__at_ => W.ret ((), (⟨hand__rows_, hand__at_, hand__held_, hand__spoken_, hand__way_⟩ : ObHand))) (W.ret ((), (⟨hand__rows_, hand__at_, hand__held_, hand__spoken_, hand__way_⟩ : ObHand)))))))))
def m_lead_on_L1 (done_ : Int) (hand_ : ObHand) : W (Ctl (Unit × ObHand) (ObHand)) :=
  W.bind (W.ret hand_.rows) fun hand__rows_ => W.bind (W.ret hand_.at_) fun hand__at_ => W.bind (W.ret hand_.held) fun hand__held_ => W.bind (W.ret hand_.spoken) fun hand__spoken_ => W.bind (W.ret hand_.way) fun hand__way_ => W.ite (decide (hand__at_ = ((hand__rows_).length : Int))) (W.bind (W.ret ("ends" : Str)) fun hand__way_ => W.ret (Ctl.rt ((), (⟨hand__rows_, hand__at_, hand__held_, hand__spoken_, hand__way_⟩ : ObHand)))) (W.bind (W.opt (atI hand__rows_ hand__at_)) fun t9 => W.bind (W.ret t9) fun row_ => W.bind (W.opt (pyIx row_ (0 : Int))) fun t11 => W.bind (W.opt (Fr.fr t11 : Option Str)) fun t15 => W.ite (decide (t15 ∈ ([("load" : Str), ("store" : Str), ("swap" : Str)] : List Str))) (W.bind (W.ret ("waits" : Str)) fun hand__way_ => W.ret (Ctl.rt ((), (⟨hand__rows_, hand__at_, hand__held_, hand__spoken_, hand__way_⟩ : ObHand)))) (W.ite (decide (done_ < (60 : Int))) (W.bind2 (m_do_own (⟨hand__rows_, hand__at_, hand__held_, hand__spoken_, hand__way_⟩ : ObHand) row_) fun t22 hand_ => W.bind (W.ret hand_.rows) fun hand__rows_ => W.bind (W.ret hand_.at_) fun hand__at_ => W.bind (W.ret hand_.held) fun hand__held_ => W.bind (W.ret hand_.spoken) fun hand__spoken_ => W.bind (W.ret hand_.way) fun hand__way_ => W.ret (Ctl.nx (⟨hand__rows_, hand__at_, hand__held_, hand__spoken_, hand__way_⟩ : ObHand))) (W.ret (Ctl.nx (⟨hand__rows_, hand__at_, hand__held_, hand__spoken_, hand__way_⟩ : ObHand)))))
def m_lead_on_R1 (hand_ : ObHand) : W (Unit × ObHand) :=
  W.bind (W.ret hand_.rows) fun hand__rows_ => W.bind (W.ret hand_.at_) fun hand__at_ => W.bind (W.ret hand_.held) fun hand__held_ => W.bind (W.ret hand_.spoken) fun hand__spoken_ => W.bind (W.ret hand_.way) fun hand__way_ => W.bind (W.ret ("lost" : Str)) fun hand__way_ => W.ret ((), (⟨hand__rows_, hand__at_, hand__held_, hand__spoken_, hand__way_⟩ : ObHand))
def m_lead_on (hand_ : ObHand) : W (Unit × ObHand) :=
  W.bind (W.ret hand_.rows) fun hand__rows_ => W.bind (W.ret hand_.at_) fun hand__at_ => W.bind (W.ret hand_.held) fun hand__held_ => W.bind (W.ret hand_.spoken) fun hand__spoken_ => W.bind (W.ret hand_.way) fun hand__way_ => W.bind (W.ret (⟨hand__rows_, hand__at_, hand__held_, hand__spoken_, hand__way_⟩ : ObHand)) fun hand_ => W.guard (rngOk 0 ((60 : Int) + (1 : Int))) (W.bind (W.forC (rng 0 ((60 : Int) + (1 : Int))) hand_ (fun a s => m_lead_on_L1 a s)) fun c => W.after c (fun s => m_lead_on_R1 s))
def m_Works___init__ (program_ : (Int × (List (List PyData)))) (cells_ : (Option (List Int))) : W (ObWorks) :=
  W.bind (W.ret program_.1) fun program__0_ => W.bind (W.ret program_.2) fun program__1_ => W.bind (m_first_numbers program__0_ cells_) fun t1 => W.bind (W.ret t1) fun self__shared_ => W.bind (compG program__1_ (fun rows_ => W.ret true) (fun rows_ => W.bind (m_Hand___init__ rows_) fun t10 => W.ret t10)) fun t14 => W.bind (W.ret t14) fun self__team_ => W.bind (W.ret ([] : (List Int))) fun self__past_ => W.bind (mapL self__team_ m_lead_on) fun self__team_ => W.ret (⟨self__shared_, self__team_, self__past_⟩ : ObWorks)
def m_hand_like (hand_ : ObHand) : W (ObHand) :=
  W.bind (W.ret hand_.rows) fun hand__rows_ => W.bind (W.ret hand_.at_) fun hand__at_ => W.bind (W.ret hand_.held) fun hand__held_ => W.bind (W.ret hand_.spoken) fun hand__spoken_ => W.bind (W.ret hand_.way) fun hand__way_ => W.bind (m_Hand___init__ hand__rows_) fun t2 => W.bind (W.ret t2) fun other_ => W.bind (W.ret other_.rows) fun other__rows_ => W.bind (W.ret other_.at_) fun other__at_ => W.bind (W.ret other_.held) fun other__held_ => W.bind (W.ret other_.spoken) fun other__spoken_ => W.bind (W.ret other_.way) fun other__way_ => W.bind (W.ret hand__at_) fun other__at_ => W.bind (W.ret hand__held_) fun other__held_ => W.bind (W.ret hand__spoken_) fun other__spoken_ => W.bind (W.ret hand__way_) fun other__way_ => W.bind (W.ret (⟨other__rows_, other__at_, other__held_, other__spoken_, other__way_⟩ : ObHand)) fun other_ => W.ret other_
def m_Works_twin (self_ : ObWorks) : W (ObWorks) :=
  W.bind (W.ret self_.shared) fun self__shared_ => W.bind (W.ret self_.team) fun self__team_ => W.bind (W.ret self_.past) fun self__past_ => W.bind (m_Works___init__ (((self__shared_).length : Int), ([] : (List (List PyData)))) (some self__shared_)) fun t9 => W.bind (W.ret t9) fun other_ => W.bind (W.ret other_.shared) fun other__shared_ => W.bind (W.ret other_.team) fun other__team_ => W.bind (W.ret other_.past) fun other__past_ => W.bind (compG self__team_ (fun hand_ => W.ret true) (fun hand_ => W.bind (m_hand_like hand_) fun t16 => W.ret t16)) fun t20 => W.bind (W.ret t20) fun other__team_ => W.bind (W.ret self__past_) fun other__past_ => W.bind (W.ret (⟨other__shared_, other__team_, other__past_⟩ : ObWorks)) fun other_ => W.ret other_
def m_Works_counts (self_ : ObWorks) : W ((List Int)) :=
  W.guard (rngOk 0 ((self_.team).length : Int)) (W.bind (compG (rng 0 ((self_.team).length : Int)) (fun hand_ => W.ret true) (fun hand_ => W.ret (cntZ self_.past hand_))) fun t8 => W.ret t8)
def m_Replay___init__ (works_ : ObWorks) (record_ : ((List Int) × (List (P4 Int Int Int Int)))) : W (Ex ObReplay) :=
  W.bind (W.ret record_.1) fun record__0_ => W.bind (W.ret record_.2) fun record__1_ => W.exm (m_need_record (record__0_, record__1_)) (fun t1 => W.bind (m_Works_counts works_) fun t5 => W.ite (!decide (((record__0_).length : Int) = ((t5).length : Int))) (W.ret (Ex.er ⟨0, .none⟩)) (W.bind (m_Works_twin works_) fun t11 => W.bind (W.ret t11) fun self__going_ => W.bind (W.ret record__0_) fun self__due_ => W.bind (W.ret record__1_) fun self__ties_ => W.guard (repG ([(0 : Int)] : (List Int)) ((record__0_).length : Int)) (W.bind (W.ret (repL ([(0 : Int)] : (List Int)) ((record__0_).length : Int))) fun self__gone_ => W.ret (Ex.ok (⟨self__going_, self__due_, self__ties_, self__gone_⟩ : ObReplay))))) (fun er => W.ret (Ex.er er))
def m_hand_of_D (team_ : (List ObHand)) (number_ : Int) : W (Ex ObHand) :=
  W.ite ((decide (number_ < (0 : Int))) || (decide (number_ ≥ ((team_).length : Int)))) (W.ret (Ex.er ⟨0, .none⟩)) (W.bind (W.opt (atI team_ number_)) fun t1 => W.ret (Ex.ok t1))
def m_Works_how (self_ : ObWorks) (hand_ : Int) : W (Ex Str) :=
  W.exm (m_hand_of_D self_.team hand_) (fun t2 => W.ret (Ex.ok t2.way)) (fun er => W.ret (Ex.er er))
def m_Replay_is_over (self_ : ObReplay) (hand_ : Int) : W (Ex Bool) :=
  W.bind (W.ret self_.going) fun self__going_ => W.bind (W.ret self_.due) fun self__due_ => W.bind (W.ret self_.ties) fun self__ties_ => W.bind (W.ret self_.gone) fun self__gone_ => W.bind (W.opt (atI self__gone_ hand_)) fun t1 => W.bind (W.opt (atI self__due_ hand_)) fun t3 => W.ite (decide (t1 = t3)) (W.ret (Ex.ok true)) (W.exm (m_Works_how self__going_ hand_) (fun t5 => W.ret (Ex.ok (!decide (t5 = ("waits" : Str))))) (fun er => W.ret (Ex.er er)))
def m_Replay_holder (self_ : ObReplay) (hand_ : Int) : W ((Option (P4 Int Int Int Int))) :=
  W.bind (W.ret self_.going) fun self__going_ => W.bind (W.ret self_.due) fun self__due_ => W.bind (W.ret self_.ties) fun self__ties_ => W.bind (W.ret self_.gone) fun self__gone_ => W.bind (compG self__ties_ (fun tie_ => W.bind (W.opt (atI self__gone_ hand_)) fun t5 => W.guard (okD (tie_.c, tie_.d) ∧ okD (hand_, t5)) (W.ret (eqD (tie_.c, tie_.d) (hand_, t5)))) (fun tie_ => W.ret tie_)) fun t12 => W.bind (W.ret t12) fun here_ => W.bind (compG here_ (fun tie_ => W.bind (W.opt (atI self__gone_ tie_.a)) fun t20 => W.ret (decide (t20 ≤ tie_.b))) (fun tie_ => W.ret tie_)) fun t26 => W.ret (mn4 t26)
def m_hand_of (team_ : (List ObHand)) (number_ : Int) : W (Ex Int) :=
  W.bind (W.ite (decide (number_ < (0 : Int))) (W.ret true) (W.ret (decide (number_ ≥ ((team_).length : Int))))) (fun t1 => W.ite t1 (W.ret (Ex.er ⟨0, .none⟩)) (W.bind (W.opt (atI team_ number_)) fun t5 => W.ret (Ex.ok number_)))
def m_do_touch (hand_ : ObHand) (shared_ : (List Int)) : W ((P4 Str Int (Option Int) (Option Int)) × ObHand × (List Int)) :=
  W.bind (W.ret hand_.rows) fun hand__rows_ => W.bind (W.ret hand_.at_) fun hand__at_ => W.bind (W.ret hand_.held) fun hand__held_ => W.bind (W.ret hand_.spoken) fun hand__spoken_ => W.bind (W.ret hand_.way) fun hand__way_ => W.bind (W.opt (atI hand__rows_ hand__at_)) fun t2 => W.bind (W.ret t2) fun row_ => W.bind (W.ret (hand__at_ + (1 : Int))) fun hand__at_ => W.bind (W.opt (pyIx row_ (0 : Int))) fun t4 => W.guard (okD t4 ∧ okD ("store" : Str)) (W.ite (eqD t4 ("store" : Str)) (W.bind (W.opt (pyIx row_ (2 : Int))) fun t6 => W.bind (m_worth_now hand__held_ t6) fun t8 => W.bind (W.opt (pyIx row_ (1 : Int))) fun t12 => W.bind (W.opt (Fr.fr t12 : Option Int)) fun t14 => W.bind (sti shared_ t14 t8) fun shared_ => W.bind (W.opt (pyIx row_ (1 : Int))) fun t16 => W.bind (W.opt (Fr.fr t16 : Option Int)) fun t18 => W.bind (W.opt (pyIx row_ (1 : Int))) fun t20 => W.bind (W.opt (Fr.fr t20 : Option Int)) fun t22 => W.bind (W.opt (atI shared_ t22)) fun t24 => W.ret ((⟨("store" : Str), t18, (none : (Option Int)), (some t24)⟩ : (P4 Str Int (Option Int) (Option Int))), (⟨hand__rows_, hand__at_, hand__held_, hand__spoken_, hand__way_⟩ : ObHand), shared_)) (W.bind (W.opt (pyIx row_ (1 : Int))) fun t30 => W.bind (W.opt (Fr.fr t30 : Option Str)) fun t32 => W.bind (W.opt (pyIx row_ (2 : Int))) fun t34 => W.bind (W.opt (Fr.fr t34 : Option Int)) fun t36 => W.bind (W.ret t32) fun t38 => W.bind (W.ret t36) fun t39 => (fun box_ cell_ => W.bind (W.opt (atI shared_ cell_)) fun t40 => W.bind (W.ret t40) fun found_ => W.bind (W.opt (pyIx row_ (0 : Int))) fun t42 => W.guard (okD t42 ∧ okD ("load" : Str)) (W.ite (eqD t42 ("load" : Str)) (W.bind2 (m_put_in (⟨hand__rows_, hand__at_, hand__held_, hand__spoken_, hand__way_⟩ : ObHand) box_ found_) fun t46 hand_ => W.bind (W.ret hand_.rows) fun hand__rows_ => W.bind (W.ret hand_.at_) fun hand__at_ => W.bind (W.ret hand_.held) fun hand__held_ => W.bind (W.ret hand_.spoken) fun hand__spoken_ => W.bind (W.ret hand_.way) fun hand__way_ => W.ret ((⟨("load" : Str), cell_, (some found_), (none : (Option Int))⟩ : (P4 Str Int (Option Int) (Option Int))), (⟨hand__rows_, hand__at_, hand__held_, hand__spoken_, hand__way_⟩ : ObHand), shared_)) (W.bind (W.opt (pyIx row_ (3 : Int))) fun t55 => W.bind (m_worth_now hand__held_ t55) fun t57 => W.bind (sti shared_ cell_ t57) fun shared_ => W.bind2 (m_put_in (⟨hand__rows_, hand__at_, hand__held_, hand__spoken_, hand__way_⟩ : ObHand) box_ found_) fun t63 hand_ => W.bind (W.ret hand_.rows) fun hand__rows_ => W.bind (W.ret hand_.at_) fun hand__at_ => W.bind (W.ret hand_.held) fun hand__held_ => W.bind (W.ret hand_.spoken) fun hand__spoken_ => W.bind (W.ret hand_.way) fun hand__way_ => W.bind (W.opt (atI shared_ cell_)) fun t68 => W.ret ((⟨("swap" : Str), cell_, (some found_), (some t68)⟩ : (P4 Str Int (Option Int) (Option Int))), (⟨hand__rows_, hand__at_, hand__held_, hand__spoken_, hand__way_⟩ : ObHand), shared_)))) t38 t39))
def m_Works_turn (self_ : ObWorks) (hand_ : Int) : W (Ex ((P4 Str Int (Option Int) (Option Int)) × ObWorks)) :=
  W.bind (W.ret self_.shared) fun self__shared_ => W.bind (W.ret self_.team) fun self__team_ => W.bind (W.ret self_.past) fun self__past_ => W.exm (m_hand_of self__team_ hand_) (fun t2 => W.bind (W.ret t2) fun one__ix_ => W.bind (W.opt (atI self__team_ one__ix_)) fun one_ => W.ite (!decide (one_.way = ("waits" : Str))) (W.ret (Ex.er ⟨1, .none⟩)) (W.bind (m_do_touch one_ self__shared_) fun s => (fun t9 one_ self__shared_ => W.bind (W.ret t9) fun told_ => W.bind (apd self__past_ hand_) fun self__past_ => W.bind2 (m_lead_on one_) fun t13 one_ => W.bind (W.ret (setI self__team_ one__ix_ one_)) fun self__team_ => W.ret (Ex.ok (told_, (⟨self__shared_, self__team_, self__past_⟩ : ObWorks)))) s.1 s.2.1 s.2.2)) (fun er => W.ret (Ex.er er))
def m_Replay_turn (self_ : ObReplay) (hand_ : Int) : W (Ex ((P4 Str Int (Option Int) (Option Int)) × ObReplay)) :=
  W.bind (W.ret self_.going) fun self__going_ => W.bind (W.ret self_.due) fun self__due_ => W.bind (W.ret self_.ties) fun self__ties_ => W.bind (W.ret self_.gone) fun self__gone_ => W.bind (W.ite (decide (hand_ < (0 : Int))) (W.ret true) (W.ret (decide (hand_ ≥ ((self__due_).length : Int))))) (fun t2 => W.ite t2 (W.ret (Ex.er ⟨0, .none⟩)) (W.exm (m_Replay_is_over (⟨self__going_, self__due_, self__ties_, self__gone_⟩ : ObReplay) hand_) (fun t6 => W.ite t6 (W.ret (Ex.er ⟨1, .none⟩)) (W.bind (m_Replay_holder (⟨self__going_, self__due_, self__ties_, self__gone_⟩ : ObReplay) hand_) fun t10 => W.bind (W.ret t10) fun tie_ => W.guard (∀ b, tie_ = some b → toPy b ≠ .none) (W.ite (tie_.isSome) (W.ret (Ex.er ⟨3, .tuple [.str ("note" : Str), toPy tie_]⟩)) (W.exm (m_Works_turn self__going_ hand_) (fun s => (fun t14 self__going_ => W.bind (W.ret t14) fun told_ => W.bind (W.opt (atI self__gone_ hand_)) fun t18 => W.bind (sti self__gone_ hand_ (t18 + (1 : Int))) fun self__gone_ => W.ret (Ex.ok (told_, (⟨self__going_, self__due_, self__ties_, self__gone_⟩ : ObReplay)))) s.1 s.2) (fun er => W.ret (Ex.er er)))))) (fun er => W.ret (Ex.er er))))
def m_Replay_free (self_ : ObReplay) : W (Ex (List Int)) :=
  W.bind (W.ret self_.going) fun self__going_ => W.bind (W.ret self_.due) fun self__due_ => W.bind (W.ret self_.ties) fun self__ties_ => W.bind (W.ret self_.gone) fun self__gone_ => W.guard (rngOk 0 ((self__due_).length : Int)) (W.bind (compG (rng 0 ((self__due_).length : Int)) (fun hand_ => W.bind (W.sure (m_Replay_is_over self_ hand_)) (fun t3 => W.ret (!t3))) (fun hand_ => W.ret hand_)) fun t10 => W.bind (W.ret t10) fun waiting_ => W.bind (compG waiting_ (fun hand_ => W.bind (m_Replay_holder self_ hand_) fun t17 => W.guard (∀ b, t17 = some b → toPy b ≠ .none) (W.ret (t17.isNone))) (fun hand_ => W.ret hand_)) fun t24 => W.ret (Ex.ok t24))
def m_Replay_counts (self_ : ObReplay) : W ((List Int)) :=
  W.bind (W.ret self_.going) fun self__going_ => W.bind (W.ret self_.due) fun self__due_ => W.bind (W.ret self_.ties) fun self__ties_ => W.bind (W.ret self_.gone) fun self__gone_ => W.ret self__gone_
def m_Replay_done (self_ : ObReplay) : W (Bool) :=
  W.bind (W.ret self_.going) fun self__going_ => W.bind (W.ret self_.due) fun self__due_ => W.bind (W.ret self_.ties) fun self__ties_ => W.bind (W.ret self_.gone) fun self__gone_ => W.guard (okD self__gone_ ∧ okD self__due_) (W.ret (eqD self__gone_ self__due_))
def m_Replay___len__ (self_ : ObReplay) : W (Int) :=
  W.bind (W.ret self_.going) fun self__going_ => W.bind (W.ret self_.due) fun self__due_ => W.bind (W.ret self_.ties) fun self__ties_ => W.bind (W.ret self_.gone) fun self__gone_ => W.guard (RgOk 0 (((self__due_).sum) - ((self__gone_).sum))) (W.ret ((((((self__due_).sum) - ((self__gone_).sum)) - 0).toNat : Nat) : Int))
def m_law_asked (seen_ : (List (List Int))) (free_ : (List Int)) : W (Int × (List (List Int))) :=
  W.bind (apd seen_ free_) fun seen_ => W.bind (W.opt (atI free_ (0 : Int))) fun t7 => W.ret (t7, seen_)
def m_law_played__lam0 (free_ : (List Int)) (seen_ : (List (List Int))) : W (Int × (List (List Int))) :=
  W.bind2 (m_law_asked seen_ free_) fun t1 seen_ => W.ret (t1, seen_)
def m_played_L1 (replay_ : ObReplay) (order_ : (List Int)) (free_ : (List Int)) (seen_ : (List (List Int))) : W (Ctl (Ex ((List Int) × (List (List Int)))) (ObReplay × (List Int) × (List Int) × (List (List Int)))) :=
  W.guard (okD free_ ∧ okD ([] : (List Int))) (W.ite (!eqD free_ ([] : (List Int))) (W.bind2 (m_law_played__lam0 free_ seen_) fun t25 seen_ => W.bind (W.ret t25) fun hand_ => W.guard (okD hand_ ∧ okD free_) (W.ite (!inD hand_ free_) (W.bad) (W.bind (W.sure (m_Replay_turn replay_ hand_)) (fun s => (fun t30 replay_ => W.bind (apd order_ hand_) fun order_ => W.bind (W.sure (m_Replay_free replay_)) (fun t34 => W.bind (W.ret t34) fun free_ => W.ret (Ctl.nx (replay_, order_, free_, seen_)))) s.1 s.2)))) (W.ret (Ctl.bk (replay_, order_, free_, seen_))))
def m_played (works_ : ObWorks) (record_ : ((List Int) × (List (P4 Int Int Int Int)))) (choose_ : Unit) (seen_ : (List (List Int))) : W (Ex ((List Int) × (List (List Int)))) :=
  W.bind (W.ret record_.1) fun record__0_ => W.bind (W.ret record_.2) fun record__1_ => W.exm (m_Replay___init__ works_ (record__0_, record__1_)) (fun t2 => W.bind (W.ret t2) fun replay_ => W.bind (W.ret ([] : (List Int))) fun order_ => W.bind (W.sure (m_Replay_free replay_)) (fun t10 => W.bind (W.ret t10) fun free_ => W.bind (W.whileL (replay_, order_, free_, seen_) (fun s => m_played_L1 s.1 s.2.1 s.2.2.1 s.2.2.2)) fun c => W.after c (fun s => (fun replay_ order_ free_ seen_ => W.ret (Ex.ok (order_, seen_))) s.1 s.2.1 s.2.2.1 s.2.2.2))) (fun er => W.ret (Ex.er er))
def m_law_reel_L1 (cell_ : Int) (stir_ : Int) : W (Int) :=
  W.guard (CMulW stir_ stir_) (W.guard (CPow (2 : Int) (64 : Int)) (W.guard (CPow (2 : Int) (63 : Int)) (W.guard (CMulW ((2 : Int) ^ ((64 : Int)).toNat) ((2 : Int) ^ ((63 : Int)).toNat)) (W.guard (0 < ((((2 : Int) ^ ((64 : Int)).toNat) * ((2 : Int) ^ ((63 : Int)).toNat)) - (1 : Int))) (W.bind (W.ret ((((stir_ * stir_) + (cell_ % (1000000000000000003 : Int))) + (11 : Int)) % ((((2 : Int) ^ ((64 : Int)).toNat) * ((2 : Int) ^ ((63 : Int)).toNat)) - (1 : Int)))) fun stir_ => W.ret (stir_))))))
def m_law_reel_R1 (script_ : (List Int)) (stir_ : Int) : W ((H4 (List Int) (List Int) Int Int)) :=
  W.bind (compG (Z.cut script_ none (some (63 : Int))) (fun cell_ => W.guard (CPow (10 : Int) (18 : Int)) (W.ret (decide (cell_ ≥ ((10 : Int) ^ ((18 : Int)).toNat))))) (fun cell_ => W.guard (CPow (10 : Int) (18 : Int)) (W.ret (cell_ - ((10 : Int) ^ ((18 : Int)).toNat))))) fun t16 => W.bind (W.ret t16) fun great_ => W.bind (compG (Z.cut script_ none (some (63 : Int))) (fun cell_ => W.ret true) (fun cell_ => W.ret (cell_ % (1000003 : Int)))) fun t30 => W.guard ((t30).length + (([(41 : Int)] : (List Int))).length ≤ sizeLine) (W.ret (⟨great_, (t30 ++ ([(41 : Int)] : (List Int))), (0 : Int), stir_⟩ : (H4 (List Int) (List Int) Int Int)))
def m_law_reel (script_ : (List Int)) : W ((H4 (List Int) (List Int) Int Int)) :=
  W.guard (CPow (3 : Int) (60 : Int)) (W.bind (W.ret ((3 : Int) ^ ((60 : Int)).toNat)) fun stir_ => W.bind (W.forL (Z.cut script_ none (some (63 : Int))) stir_ (fun a s => m_law_reel_L1 a s)) (fun s => m_law_reel_R1 script_ s))
def m_law_draw (reel_ : (H4 (List Int) (List Int) Int Int)) (many_ : Int) : W (Int × (H4 (List Int) (List Int) Int Int)) :=
  W.guard (okD reel_.a ∧ okD ([] : (List Int))) (W.ite (!eqD reel_.a ([] : (List Int))) (W.bind (W.opt (atI reel_.a (0 : Int))) fun t7 => W.bind (W.ret t7) fun rest_ => W.guard (CDivW rest_ many_) (W.guard (repG ([(rest_ / many_)] : (List Int)) (if (decide (rest_ ≥ many_)) then (1 : Int) else 0)) (W.guard (((repL ([(rest_ / many_)] : (List Int)) (if (decide (rest_ ≥ many_)) then (1 : Int) else 0))).length + ((Z.cut reel_.a (some (1 : Int)) none)).length ≤ sizeLine) (W.bind (W.ret ({ reel_ with a := ((repL ([(rest_ / many_)] : (List Int)) (if (decide (rest_ ≥ many_)) then (1 : Int) else 0)) ++ (Z.cut reel_.a (some (1 : Int)) none)) } : (H4 (List Int) (List Int) Int Int))) fun reel_ => W.guard (0 < many_) (W.ret ((rest_ % many_), reel_)))))) (W.bind (W.ret ({ reel_ with c := (reel_.c + (1 : Int)) } : (H4 (List Int) (List Int) Int Int))) fun reel_ => W.guard (0 < ((reel_.b).length : Int)) (W.bind (W.opt (atI reel_.b (reel_.c % ((reel_.b).length : Int)))) fun t32 => W.bind (W.ret t32) fun told_ => W.guard (CMulW reel_.d reel_.d) (W.guard (CMulW (told_ + (7 : Int)) (69621 : Int)) (W.guard (CMulW reel_.c (1000003 : Int)) (W.bind (W.ret (((reel_.d * reel_.d) + ((told_ + (7 : Int)) * (69621 : Int))) + (reel_.c * (1000003 : Int)))) fun stir_ => W.guard (CPow (2 : Int) (64 : Int)) (W.guard (CPow (2 : Int) (63 : Int)) (W.guard (CMulW ((2 : Int) ^ ((64 : Int)).toNat) ((2 : Int) ^ ((63 : Int)).toNat)) (W.guard (0 < ((((2 : Int) ^ ((64 : Int)).toNat) * ((2 : Int) ^ ((63 : Int)).toNat)) - (1 : Int))) (W.bind (W.ret ({ reel_ with d := (stir_ % ((((2 : Int) ^ ((64 : Int)).toNat) * ((2 : Int) ^ ((63 : Int)).toNat)) - (1 : Int))) } : (H4 (List Int) (List Int) Int Int))) fun reel_ => W.guard (CPow (2 : Int) (40 : Int)) (W.guard (CDivW reel_.d ((2 : Int) ^ ((40 : Int)).toNat)) (W.guard (0 < many_) (W.ret (((reel_.d / ((2 : Int) ^ ((40 : Int)).toNat)) % many_), reel_))))))))))))))
def m_law_alike_R : Nat → PyData → PyData → W (Bool)
  | 0, _, _ => W.bad
  | n + 1, found_, due_ =>
  W.guard (okP due_) (W.bind (W.ite (isP due_ "tuple") (W.ret true) (W.guard (okP due_) (W.ret (isP due_ "list")))) (fun t1 => W.ite t1 (W.guard (okP found_) (W.guard (okP due_) (W.bind (W.ite (!decide ((isP found_ "tuple") = (isP due_ "tuple"))) (W.ret true) (W.guard (okP found_) (W.guard (okP due_) (W.ret (!decide ((isP found_ "list") = (isP due_ "list"))))))) (fun t5 => W.ite t5 (W.ret false) (W.bind (W.opt (pyLen found_)) fun t9 => W.bind (W.opt (pyLen due_)) fun t10 => W.ite (!decide (t9 = t10)) (W.ret false) (W.bind (W.opt (pyZip found_ due_)) fun t11 => W.bind (compG t11 (fun a => (fun mine_ other_ => W.ret true) a.1 a.2) (fun a => (fun mine_ other_ => W.bind (m_law_alike_R n mine_ other_) fun t14 => W.ret t14) a.1 a.2)) fun t23 => W.ret ((t23).all id))))))) (W.ite (pyNone due_) (W.ret (pyNone found_)) (W.guard (okP due_) (W.bind (W.ite (isP due_ "bool") (W.ret true) (W.guard (okP due_) (W.ret (isP due_ "str")))) (fun t26 => W.ite t26 (W.guard (okP found_) (W.guard (okP due_) (W.bind (W.ite (decide ((isP found_ "bool") = (isP due_ "bool"))) (W.guard (okD found_ ∧ okD due_) (W.ret (eqD found_ due_))) (W.ret false)) (fun t30 => W.ret t30)))) (W.guard (okP found_) (W.bind (W.ite (isP found_ "int") (W.guard (okP found_) (W.bind (W.ite (!(isP found_ "bool")) (W.guard (okD found_ ∧ okD due_) (W.ret (eqD found_ due_))) (W.ret false)) (fun t34 => W.ret t34))) (W.ret false)) (fun t38 => W.ret t38)))))))))
def m_law_alike (found_ : PyData) (due_ : PyData) : W (Bool) := m_law_alike_R 6 found_ due_
def m_law_note (reel_ : (H4 (List Int) (List Int) Int Int)) (counts_ : (List Int)) : W ((Option (P4 Int Int Int Int)) × (H4 (List Int) (List Int) Int Int)) :=
  W.guard (rngOk 0 ((counts_).length : Int)) (W.bind (compG (rng 0 ((counts_).length : Int)) (fun k_ => W.bind (W.opt (atI counts_ k_)) fun t3 => W.ret (decide (t3 > (0 : Int)))) (fun k_ => W.ret k_)) fun t8 => W.bind (W.ret t8) fun able_ => W.ite (decide (((able_).length : Int) < (2 : Int))) (W.ret ((none : (Option (P4 Int Int Int Int))), reel_)) (W.bind2 (m_law_draw reel_ ((able_).length : Int)) fun t11 reel_ => W.bind (popI able_ t11) fun q => (fun t15 able_ => W.bind (W.ret t15) fun hand_ => W.bind2 (m_law_draw reel_ ((able_).length : Int)) fun t17 reel_ => W.bind (W.opt (atI able_ t17)) fun t21 => W.bind (W.ret t21) fun other_ => W.bind (W.opt (atI counts_ hand_)) fun t23 => W.bind2 (m_law_draw reel_ t23) fun t25 reel_ => W.bind (W.opt (atI counts_ other_)) fun t29 => W.bind2 (m_law_draw reel_ t29) fun t31 reel_ => W.ret ((some (⟨hand_, t25, other_, t31⟩ : (P4 Int Int Int Int))), reel_)) q.1 q.2))
def m_law_other (reel_ : (H4 (List Int) (List Int) Int Int)) (note_ : (P4 Int Int Int Int)) (counts_ : (List Int)) (place_ : Int) : W ((P4 Int Int Int Int) × (H4 (List Int) (List Int) Int Int)) :=
  W.guard (CPow (10 : Int) (30 : Int)) (W.bind2 (m_law_draw reel_ (3 : Int)) fun t5 reel_ => W.bind (W.opt (atI ([(1 : Int), (3 : Int), (((10 : Int) ^ ((30 : Int)).toNat) - (10 : Int))] : (List Int)) t5)) fun t9 => W.bind2 (m_law_draw reel_ t9) fun t11 reel_ => W.bind (W.ret t11) fun far_ => W.bind2 (m_law_draw reel_ (3 : Int)) fun t15 reel_ => W.bind (W.ret t15) fun low_ => W.bind (W.ret ([note_.a, note_.b, note_.c, note_.d] : List Int)) fun changed_ => W.bind (W.ite (decide (low_ = (0 : Int))) (W.bind (sti changed_ place_ ((-(1 : Int)) - far_)) fun changed_ => W.ret (changed_)) (W.bind (W.ite (decide (low_ = (1 : Int))) (W.bind (W.opt (atI (⟨[note_.a, note_.b, note_.c, note_.d]⟩ : Tp Int).l ((place_ + (2 : Int)) % (4 : Int)))) fun t23 => W.bind (sti changed_ place_ t23) fun changed_ => W.ret (changed_)) (W.bind (W.ite (decide ((place_ % (2 : Int)) = (0 : Int))) (W.bind (sti changed_ place_ (((counts_).length : Int) + far_)) fun changed_ => W.ret (changed_)) (W.bind (W.opt (atI (⟨[note_.a, note_.b, note_.c, note_.d]⟩ : Tp Int).l (place_ - (1 : Int)))) fun t25 => W.bind (W.opt (atI counts_ t25)) fun t27 => W.bind (sti changed_ place_ (t27 + far_)) fun changed_ => W.ret (changed_))) (fun s => (fun changed_ => W.ret (changed_)) s))) (fun s => (fun changed_ => W.ret (changed_)) s))) (fun s => (fun changed_ => W.bind (W.opt (atI changed_ (0 : Int))) fun t32 => W.bind (W.opt (atI changed_ (1 : Int))) fun t34 => W.bind (W.opt (atI changed_ (2 : Int))) fun t36 => W.bind (W.opt (atI changed_ (3 : Int))) fun t38 => W.ret ((⟨t32, t34, t36, t38⟩ : (P4 Int Int Int Int)), reel_)) s))
def m_law_notes_R1 (reel_ : (H4 (List Int) (List Int) Int Int)) (counts_ : (List Int)) (spoil_ : Int) (at_ : Int) (place_ : Int) (some_ : (List (Option (P4 Int Int Int Int)))) : W ((List (P4 Int Int Int Int)) × (H4 (List Int) (List Int) Int Int)) :=
  W.bind (W.ite (decide (spoil_ = (1 : Int))) (W.guard (0 < ((some_).length : Int)) (W.bind (W.ret (at_ % ((some_).length : Int))) fun at_ => W.bind (W.opt (atI some_ at_)) fun t50 => W.bind (W.opt t50) fun t52 => W.bind2 (m_law_other reel_ t52 counts_ place_) fun t54 reel_ => W.bind (sti some_ at_ (some t54)) fun some_ => W.ret ((reel_, some_)))) (W.ret ((reel_, some_)))) (fun s => (fun reel_ some_ => W.bind (W.opt (getAll some_)) fun t61 => W.ret (t61, reel_)) s.1 s.2)
def m_law_notes (reel_ : (H4 (List Int) (List Int) Int Int)) (counts_ : (List Int)) : W ((List (P4 Int Int Int Int)) × (H4 (List Int) (List Int) Int Int)) :=
  W.bind2 (m_law_draw reel_ (2 : Int)) fun t1 reel_ => W.bind (W.ret t1) fun spoil_ => W.bind2 (m_law_draw reel_ (7 : Int)) fun t5 reel_ => W.bind (W.ret t5) fun many_ => W.bind2 (m_law_draw reel_ (7 : Int)) fun t9 reel_ => W.bind (W.ret t9) fun at_ => W.bind2 (m_law_draw reel_ (4 : Int)) fun t13 reel_ => W.bind (W.ret t13) fun place_ => W.guard (rngOk 0 many_) (W.bind (compSG (rng 0 many_) reel_ (fun a s => (fun k_ => (fun reel_ => W.bind2 (m_law_note reel_ counts_) fun t19 reel_ => W.ret (some t19, reel_)) s) a)) fun q => (fun t26 reel_ => W.bind (W.ret t26) fun some_ => W.guard (okD () ∧ okD some_) (W.bind (W.ite (inD () some_) (W.ret true) (W.guard (okD some_ ∧ okD ([] : (List (Option (P4 Int Int Int Int))))) (W.ret (eqD some_ ([] : (List (Option (P4 Int Int Int Int)))))))) (fun t33 => W.ite t33 (W.ret (([] : (List (P4 Int Int Int Int))), reel_)) (W.bind2 (m_law_draw reel_ (3 : Int)) fun t43 reel_ => W.bind (W.ite (decide (t43 = (0 : Int))) (W.bind (W.opt (atI some_ (0 : Int))) fun t47 => W.bind (apd some_ t47) fun some_ => W.ret (some_)) (W.ret (some_))) (fun s => m_law_notes_R1 reel_ counts_ spoil_ at_ place_ s))))) q.1 q.2)
def m_law_there (counts_ : (List Int)) (hand_ : Int) (k_ : Int) : W (Bool) :=
  W.bind (W.ite (decide ((0 : Int) ≤ hand_)) (W.bind (W.ite (decide (hand_ < ((counts_).length : Int))) (W.bind (W.ite (decide ((0 : Int) ≤ k_)) (W.bind (W.opt (atI counts_ hand_)) fun t1 => W.ret (decide (k_ < t1))) (W.ret false)) (fun t3 => W.ret t3)) (W.ret false)) (fun t7 => W.ret t7)) (W.ret false)) (fun t11 => W.ret t11)
def m_law_due_L1 (counts_ : (List Int)) (hand_ : Int) (k_ : Int) (other_ : Int) (m_ : Int) : W (Ctl Int (Unit)) :=
  W.bind (W.ite (decide (hand_ = other_)) (W.ret true) (W.bind (m_law_there counts_ hand_ k_) fun t2 => W.bind (W.ite (!t2) (W.ret true) (W.bind (m_law_there counts_ other_ m_) fun t6 => W.ret (!t6))) (fun t10 => W.ret t10))) (fun t14 => W.ite t14 (W.ret (Ctl.rt (1 : Int))) (W.ret (Ctl.nx ())))
def m_law_due (counts_ : (List Int)) (some_ : (List (P4 Int Int Int Int))) (hands_ : Int) : W (Int) :=
  W.bind (W.forC some_ () (fun a s => m_law_due_L1 counts_ a.a a.b a.c a.d)) fun c => W.after c (fun _ => W.bind (W.opt (atI ([(0 : Int), (2 : Int)] : (List Int)) (if (!decide (((counts_).length : Int) = hands_)) then (1 : Int) else 0))) fun t23 => W.ret t23)
def m_law_kind (caught_ : (Option Er)) : W (Int) :=
  W.ite (caught_.isNone) (W.ret (0 : Int)) (W.bind (W.opt caught_) fun er1 => W.bind (W.ite (!(subT_ValueError er1.cls)) (W.ret true) (W.bind (W.opt caught_) fun er3 => W.ret (sub_Held er3.cls || (sub_NoCut er3.cls || (sub_Over er3.cls || false))))) (fun t6 => W.ite t6 (W.ret (3 : Int)) (W.bind (W.opt caught_) fun er14 => W.bind (W.opt caught_) fun er16 => W.guard (CMulW (2 : Int) (if (sub_NoHand er16.cls) then (1 : Int) else 0)) (W.bind (W.opt (atI ([(3 : Int), (1 : Int), (2 : Int), (3 : Int)] : (List Int)) ((if (sub_NoNote er14.cls) then (1 : Int) else 0) + ((2 : Int) * (if (sub_NoHand er16.cls) then (1 : Int) else 0))))) fun t18 => W.ret t18))))
def m_law_made (works_ : ObWorks) (record_ : ((List Int) × (List (P4 Int Int Int Int)))) : W (Int) :=
  W.bind (W.ret record_.1) fun record__0_ => W.bind (W.ret record_.2) fun record__1_ => W.bind (W.exm (W.exm (m_Replay___init__ works_ (record__0_, record__1_)) (fun t4 => W.ret (Ex.ok ())) (fun er => W.ret (Ex.er er))) (fun _ => W.ret none) fun er => W.guard (sub_NoteError er.cls = true) (W.ret (some er))) fun caught_ => W.bind (m_law_kind caught_) fun t9 => W.ret t9
def m_law_played (works_ : ObWorks) (record_ : ((List Int) × (List (P4 Int Int Int Int)))) (tab_ : Unit) : W (Int × Unit) :=
  W.bind (W.ret record_.1) fun record__0_ => W.bind (W.ret record_.2) fun record__1_ => W.bind (W.ret ([] : (List (List Int)))) fun seen_ => W.bind (W.exm (W.exm (m_played works_ (record__0_, record__1_) () seen_) (fun s => (fun t14 seen_ => W.ret (Ex.ok (seen_, tab_))) s.1 s.2) (fun er => W.ret (Ex.er er))) (fun s => W.ret (none, s)) fun er => W.guard (sub_NoteError er.cls = true) (W.ret (some er, (seen_, tab_)))) fun u => (fun caught_ s => (fun seen_ tab_ => W.bind (W.ite (caught_.isSome) (W.guard (okD seen_ ∧ okD ([] : (List (List Int)))) (W.ret (!eqD seen_ ([] : (List (List Int)))))) (W.ret false)) (fun t25 => W.ite t25 (W.ret ((3 : Int), tab_)) (W.bind (m_law_kind caught_) fun t29 => W.ret (t29, tab_)))) s.1 s.2) u.1 u.2
def m_law_right (works_ : ObWorks) (counts_ : (List Int)) (some_ : (List (P4 Int Int Int Int))) (hands_ : Int) (tab_ : Unit) : W (Bool × Unit) :=
  W.bind (W.ret (counts_, some_)) fun handed_ => W.bind (W.ret handed_.1) fun handed__0_ => W.bind (W.ret handed_.2) fun handed__1_ => W.bind (m_law_due counts_ some_ hands_) fun t14 => W.bind (W.ret t14) fun due_ => W.bind (m_law_made works_ (handed__0_, handed__1_)) fun t18 => W.bind (W.ite (!decide (t18 = due_)) (W.ret (true, tab_)) (W.bind2 (m_law_played works_ (handed__0_, handed__1_) tab_) fun t22 tab_ => W.ret ((!decide (t22 = due_)), tab_))) (fun s => (fun t26 tab_ => W.ite t26 (W.ret (false, tab_)) (W.ite (decide (due_ = (0 : Int))) (W.bind (W.sure (m_Replay___init__ works_ (handed__0_, handed__1_))) fun t31 => W.bind (W.ret t31) fun one_ => W.bind (m_Replay_counts one_) fun t35 => W.guard (repG ([(0 : Int)] : (List Int)) hands_) (W.bind (m_law_alike (toPy t35) (toPy (repL ([(0 : Int)] : (List Int)) hands_))) fun t47 => W.bind (W.ite (!t47) (W.ret true) (W.bind (m_Replay___len__ one_) fun t53 => W.guard (0 ≤ t53 ∧ t53 < 2 ^ 63) (W.ret (!decide (t53 = ((counts_).sum)))))) (fun t57 => W.ite t57 (W.ret (false, tab_)) (W.bind (m_Replay_done one_) fun t61 => W.bind (m_law_alike (toPy t61) (toPy (decide (((counts_).sum) = (0 : Int))))) fun t65 => W.ite (!t65) (W.ret (false, tab_)) (W.guard (okD (handed__0_, handed__1_) ∧ okD (counts_, some_)) (W.bind (W.ite (eqD (handed__0_, handed__1_) (counts_, some_)) (W.bind (m_Works_counts works_) fun t73 => W.guard (repG ([(0 : Int)] : (List Int)) hands_) (W.guard (okD t73 ∧ okD (repL ([(0 : Int)] : (List Int)) hands_)) (W.ret (eqD t73 (repL ([(0 : Int)] : (List Int)) hands_))))) (W.ret false)) (fun t87 => W.ret (t87, tab_)))))))) (W.guard (okD (handed__0_, handed__1_) ∧ okD (counts_, some_)) (W.bind (W.ite (eqD (handed__0_, handed__1_) (counts_, some_)) (W.bind (m_Works_counts works_) fun t93 => W.guard (repG ([(0 : Int)] : (List Int)) hands_) (W.guard (okD t93 ∧ okD (repL ([(0 : Int)] : (List Int)) hands_)) (W.ret (eqD t93 (repL ([(0 : Int)] : (List Int)) hands_))))) (W.ret false)) (fun t107 => W.ret (t107, tab_)))))) s.1 s.2)
def m_law_rows (many_ : Int) (last_ : Int) : W ((List PyData)) :=
  W.guard (repG ([(toPy (⟨("load" : Str), ("b" : Str), (0 : Int)⟩ : (P3 Str Str Int)))] : (List PyData)) many_) (W.guard (repG ([(toPy (("go" : Str), many_))] : (List PyData)) (if (decide (last_ = (0 : Int))) then (1 : Int) else 0)) (W.guard (((repL ([(toPy (⟨("load" : Str), ("b" : Str), (0 : Int)⟩ : (P3 Str Str Int)))] : (List PyData)) many_)).length + ((repL ([(toPy (("go" : Str), many_))] : (List PyData)) (if (decide (last_ = (0 : Int))) then (1 : Int) else 0))).length ≤ sizeLine) (W.ret ((repL ([(toPy (⟨("load" : Str), ("b" : Str), (0 : Int)⟩ : (P3 Str Str Int)))] : (List PyData)) many_) ++ (repL ([(toPy (("go" : Str), many_))] : (List PyData)) (if (decide (last_ = (0 : Int))) then (1 : Int) else 0))))))
def m_law_R1 (hands_ : Int) (tab_ : Unit) (reel_ : (H4 (List Int) (List Int) Int Int)) (many_ : Int) :=
  W.guard (rngOk 0 hands_) (W.bind (compSG (rng 0 hands_) reel_ (fun a s => (fun at_ => (fun reel_ => W.bind2 (m_law_draw reel_ (5 : Int)) fun t21 reel_ => W.bind2 (m_law_draw reel_ (3 : Int)) fun t25 reel_ => W.bind (m_law_rows t21 t25) fun t29 => W.ret (some t29, reel_)) s) a)) fun q => (fun t36 reel_ => W.bind (m_Works___init__ ((1 : Int), t36) (none : (Option (List Int)))) fun t43 => W.bind (W.ret t43) fun works_ => W.guard (rngOk 0 many_) (W.bind (compSG (rng 0 many_) reel_ (fun a s => (fun at_ => (fun reel_ => W.bind2 (m_law_draw reel_ (7 : Int)) fun t49 reel_ => W.ret (some t49, reel_)) s) a)) fun q => (fun t56 reel_ => W.bind (W.ret t56) fun counts_ => W.bind2 (m_law_notes reel_ counts_) fun t61 reel_ => W.bind2 (m_law_right works_ counts_ t61 hands_ tab_) fun t65 tab_ => W.ite (!t65) (W.ret (Ctl.rt (false, tab_))) (W.ret (Ctl.nx (reel_, tab_)))) q.1 q.2)) q.1 q.2)
def m_law_L1 (k_ : Int) (reel_ : (H4 (List Int) (List Int) Int Int)) (tab_ : Unit) : W (Ctl (Bool × Unit) ((H4 (List Int) (List Int) Int Int) × Unit)) :=
  W.bind2 (m_law_draw reel_ (8 : Int)) fun t6 reel_ => W.bind (W.ret ((1 : Int) + t6)) fun hands_ => W.bind (W.ret hands_) fun many_ => W.bind2 (m_law_draw reel_ (4 : Int)) fun t10 reel_ => W.bind (W.ite (decide (t10 = (0 : Int))) (W.bind2 (m_law_draw reel_ (9 : Int)) fun t14 reel_ => W.bind (W.ret t14) fun many_ => W.ret ((reel_, many_))) (W.ret ((reel_, many_)))) (fun s => m_law_R1 hands_ tab_ s.1 s.2)
def m_law (script_ : (List Int)) (tab_ : Unit) : W (Bool × Unit) :=
  W.bind (m_law_reel script_) fun t1 => W.bind (W.ret t1) fun reel_ => W.guard (rngOk 0 ((1 : Int) + (if (30 : Int) < ((script_).length : Int) then (30 : Int) else ((script_).length : Int)))) (W.bind (W.forC (rng 0 ((1 : Int) + (if (30 : Int) < ((script_).length : Int) then (30 : Int) else ((script_).length : Int)))) (reel_, tab_) (fun a s => m_law_L1 a s.1 s.2)) fun c => W.after c (fun s => (fun reel_ tab_ => W.ret (true, tab_)) s.1 s.2))
end M
/-! # general ways -/
namespace M
open PySem L2 Z
theorem rng_mem {a b x : Int} : x ∈ rng a b ↔ a ≤ x ∧ x < b := by
  unfold rng
  rw [List.mem_map]
  constructor
  · rintro ⟨k, hk, rfl⟩
    rw [List.mem_range] at hk
    omega
  · rintro ⟨h1, h2⟩
    exact ⟨(x - a).toNat, by rw [List.mem_range]; omega, by omega⟩
theorem at_head {α : Type} {x : α} {l : List α} : atI (x :: l) (0 : Int) = some x := atI_nat (j := 0) rfl
/-- a loop that is left at last -/
theorem while_wp {S ρ : Type} (Inv : S → Prop) (μ : S → Nat) {s : S} {f : S → W (Ctl ρ S)} {Φ : Ctl ρ S → Prop} (h0 : Inv s)
    (step : ∀ s, Inv s → (f s).run (CtlP (fun s' => Inv s' ∧ μ s' < μ s) (fun s' => Φ (.nx s')) (fun r => Φ (.rt r)))) : (W.whileL s f).run Φ := by
  have key : ∀ m s, Inv s → μ s < m → (W.whileN m s f).run Φ := by
    intro m
    induction m with
    | zero => intro s _ h; omega
    | succ m ih =>
      intro s hs hm
      show (W.bind (f s) _).run Φ
      rw [run_bind]
      refine run_mono (step s hs) fun c hc => ?_
      cases c with
      | nx s' => exact ih s' hc.1 (by have := hc.2; omega)
      | bk s' => exact hc
      | rt r => exact hc
  exact ⟨μ s + 1, key _ s h0 (Nat.lt_succ_self _)⟩
/-- a loop that is left where a test holds -/
theorem forC_any {α ρ : Type} {xs : List α} {f : α → Unit → W (Ctl ρ Unit)} (t : α → Bool) (r : ρ) {Φ : Ctl ρ Unit → Prop} (hf : ∀ x ∈ xs, ∀ Ψ : Ctl ρ Unit → Prop, Ψ (if t x = true then .rt r else .nx ()) → (f x ()).run Ψ)
    (k : Φ (if xs.any t = true then .rt r else .nx ())) : (W.forC xs () f).run Φ := by
  induction xs with
  | nil => exact k
  | cons x xs ih =>
    show (W.bind (f x ()) _).run Φ
    rw [run_bind]
    refine hf x List.mem_cons_self _ ?_
    rw [List.any_cons] at k
    by_cases c : t x = true
    · rw [if_pos c]
      rw [c, Bool.true_or, if_pos rfl] at k
      exact k
    · rw [if_neg c]
      rw [Bool.not_eq_true] at c
      rw [c, Bool.false_or] at k
      exact ih (fun y hy => hf y (List.mem_cons_of_mem _ hy)) k
theorem popI_wp {α : Type} {xs : List α} {i : Nat} {Φ : α × List α → Prop} (h : i < xs.length) (hl : xs.length ≤ 100000) (k : Φ (xs[i], xs.eraseIdx i)) : (popI xs (i : Int)).run Φ :=
  ⟨⟨by omega, by omega⟩, i, by rw [ixN_nat' (by omega) (by omega), Int.toNat_natCast], xs[i], List.getElem?_eq_getElem h, k⟩
/-- a comprehension that carries a state -/
theorem compSG_wp {α β S : Type} {xs : List α} {s : S} {f : α → S → W (Option β × S)} (Inv : Nat → S → List β → Prop) {Φ : List β × S → Prop} (hl : xs.length ≤ sizeLine) (h0 : Inv 0 s [])
    (step : ∀ i x s acc, xs[i]? = some x → Inv i s acc → (f x s).run fun r => match r.1 with | none => Inv (i + 1) r.2 acc | some y => Inv (i + 1) r.2 (acc ++ [y])) (k : ∀ s acc, Inv xs.length s acc → Φ (acc, s)) : (compSG xs s f).run Φ := by
  refine ⟨hl, ?_⟩
  have key : ∀ (ys : List α) (i : Nat) (s : S) (acc : List β), (∀ j x, ys[j]? = some x → xs[i + j]? = some x) → i + ys.length = xs.length → Inv i s acc → (compS ys acc s f).run Φ := by
    intro ys
    induction ys with
    | nil =>
      intro i s acc _ e h
      exact k s acc (by rw [← e]; exact h)
    | cons y ys ih =>
      intro i s acc hx e h
      show (W.bind (f y s) _).run Φ
      rw [run_bind]
      refine run_mono (step i y s acc (hx 0 y rfl) h) fun r hr => ?_
      obtain ⟨o, s'⟩ := r
      have hx' : ∀ j x, ys[j]? = some x → xs[i + 1 + j]? = some x := fun j x q => by rw [Nat.add_right_comm]; exact hx (j + 1) x q
      have e' : i + 1 + ys.length = xs.length := by rw [← e]; simp; omega
      cases o with
      | none => exact ih (i + 1) s' acc hx' e' hr
      | some z => exact ih (i + 1) s' (acc ++ [z]) hx' e' hr
  exact key xs 0 s [] (fun j x q => by rw [Nat.zero_add]; exact q) (by omega) h0
end M
/-! # works: two answers that are the same are alike; the reel -/
namespace M
open PySem L2 Z
abbrev WReel := H4 (List Int) (List Int) Int Int
/-! ### data: what simp should know -/
theorem pt {xs : List PyData} {i : Int} : pyIx (.tuple xs) i = atI xs i := rfl
theorem at0 {α : Type} {a : α} {l : List α} : atI (a :: l) (0 : Int) = some a := atI_nat (j := 0) rfl
theorem at1 {α : Type} {a b : α} {l : List α} : atI (a :: b :: l) (1 : Int) = some b := atI_nat (j := 1) rfl
theorem at2 {α : Type} {a b c : α} {l : List α} : atI (a :: b :: c :: l) (2 : Int) = some c := atI_nat (j := 2) rfl
theorem at3 {α : Type} {a b c d : α} {l : List α} : atI (a :: b :: c :: d :: l) (3 : Int) = some d := atI_nat (j := 3) rfl
theorem at4 {α : Type} {a b c d e : α} {l : List α} : atI (a :: b :: c :: d :: e :: l) (4 : Int) = some e := atI_nat (j := 4) rfl
theorem atL3 {α : Type} {a b c : α} : atI [a, b, c] (-(1 : Int)) = some c := atI_last [a, b] c
theorem atL4 {α : Type} {a b c d : α} : atI [a, b, c, d] (-(1 : Int)) = some d := atI_last [a, b, c] d
theorem eqS {a b : Str} : eqD (PyData.str a) b = decide (a = b) := eqD_dec (α := Str)
theorem eqS' {a b : Str} : eqD (PyData.str a) (PyData.str b) = decide (a = b) := eqD_dec (α := Str)
theorem eqI' {a b : Int} : eqD (PyData.int a) (PyData.int b) = decide (a = b) := eqD_dec (α := Int)
theorem okW {a : Str} (h : PyData.strOk a = true) : okD a := okD_of (α := Str) h
theorem okId {a : Int} : okD (PyData.int a) = True := eq_true (okD_pl (α := Int) a)
theorem neW : ¬ (("number" : Str) = "box") ∧ ¬ (("number" : Str) = "plus") ∧ ¬ (("number" : Str) = "minus") ∧ ¬ (("box" : Str) = "number") ∧ ¬ (("box" : Str) = "plus") ∧ ¬ (("box" : Str) = "minus") ∧ ¬ (("plus" : Str) = "number") ∧ ¬ (("plus" : Str) = "box") ∧ ¬ (("plus" : Str) = "minus") ∧ ¬ (("minus" : Str) = "number") ∧ ¬ (("minus" : Str) = "box") ∧ ¬ (("minus" : Str) = "plus") ∧ ¬ (("load" : Str) = "store") ∧ ¬ (("load" : Str) = "swap") ∧ ¬ (("load" : Str) = "let") ∧ ¬ (("load" : Str) = "say") ∧ ¬ (("load" : Str) = "go") ∧ ¬ (("load" : Str) = "unless") ∧ ¬ (("store" : Str) = "load") ∧ ¬ (("store" : Str) = "swap") ∧ ¬ (("store" : Str) = "let") ∧ ¬ (("store" : Str) = "say") ∧ ¬ (("store" : Str) = "go") ∧ ¬ (("store" : Str) = "unless") ∧ ¬ (("swap" : Str) = "load") ∧ ¬ (("swap" : Str) = "store") ∧ ¬ (("swap" : Str) = "let") ∧ ¬ (("swap" : Str) = "say") ∧ ¬ (("swap" : Str) = "go") ∧ ¬ (("swap" : Str) = "unless") ∧ ¬ (("let" : Str) = "load") ∧ ¬ (("let" : Str) = "store") ∧ ¬ (("let" : Str) = "swap") ∧ ¬ (("let" : Str) = "say") ∧ ¬ (("let" : Str) = "go") ∧ ¬ (("let" : Str) = "unless") ∧ ¬ (("say" : Str) = "load") ∧ ¬ (("say" : Str) = "store") ∧ ¬ (("say" : Str) = "swap") ∧ ¬ (("say" : Str) = "let") ∧ ¬ (("say" : Str) = "go") ∧ ¬ (("say" : Str) = "unless") ∧ ¬ (("go" : Str) = "load") ∧ ¬ (("go" : Str) = "store") ∧ ¬ (("go" : Str) = "swap") ∧ ¬ (("go" : Str) = "let") ∧ ¬ (("go" : Str) = "say") ∧ ¬ (("go" : Str) = "unless") ∧ ¬ (("unless" : Str) = "load") ∧ ¬ (("unless" : Str) = "store") ∧ ¬ (("unless" : Str) = "swap") ∧ ¬ (("unless" : Str) = "let") ∧ ¬ (("unless" : Str) = "say") ∧ ¬ (("unless" : Str) = "go") ∧ ¬ (("=" : Str) = "<") ∧ ¬ (("<" : Str) = "=") ∧ ¬ (("waits" : Str) = "ends") ∧ ¬ (("waits" : Str) = "lost") ∧ ¬ (("waits" : Str) = "") ∧ ¬ (("ends" : Str) = "waits") ∧ ¬ (("ends" : Str) = "lost") ∧ ¬ (("ends" : Str) = "") ∧ ¬ (("lost" : Str) = "waits") ∧ ¬ (("lost" : Str) = "ends") ∧ ¬ (("lost" : Str) = "") ∧ ¬ (("" : Str) = "waits") ∧ ¬ (("" : Str) = "ends") ∧ ¬ (("" : Str) = "lost") := by
  refine ⟨?_, ?_, ?_, ?_, ?_, ?_, ?_, ?_, ?_, ?_, ?_, ?_, ?_, ?_, ?_, ?_, ?_, ?_, ?_, ?_, ?_, ?_, ?_, ?_, ?_, ?_, ?_, ?_, ?_, ?_, ?_, ?_, ?_, ?_, ?_, ?_, ?_, ?_, ?_, ?_, ?_, ?_, ?_, ?_, ?_, ?_, ?_, ?_, ?_, ?_, ?_, ?_, ?_, ?_, ?_, ?_, ?_, ?_, ?_, ?_, ?_, ?_, ?_, ?_, ?_, ?_, ?_, ?_⟩ <;> decide +kernel
theorem frSd {a : Str} : (Fr.fr (PyData.str a) : Option Str) = some a := rfl
theorem frId {a : Int} : (Fr.fr (PyData.int a) : Option Int) = some a := rfl
theorem okA : okD (PyData.str "number") = True ∧ okD ("number" : Str) = True ∧ okD (PyData.str "box") = True ∧ okD ("box" : Str) = True ∧ okD (PyData.str "plus") = True ∧ okD ("plus" : Str) = True ∧ okD (PyData.str "minus") = True ∧ okD ("minus" : Str) = True ∧ okD (PyData.str "load") = True ∧ okD ("load" : Str) = True ∧ okD (PyData.str "store") = True ∧ okD ("store" : Str) = True ∧ okD (PyData.str "swap") = True ∧ okD ("swap" : Str) = True ∧ okD (PyData.str "let") = True ∧ okD ("let" : Str) = True ∧ okD (PyData.str "say") = True ∧ okD ("say" : Str) = True ∧ okD (PyData.str "go") = True ∧ okD ("go" : Str) = True ∧ okD (PyData.str "unless") = True ∧ okD ("unless" : Str) = True ∧ okD (PyData.str "waits") = True ∧ okD ("waits" : Str) = True ∧ okD (PyData.str "ends") = True ∧ okD ("ends" : Str) = True ∧ okD (PyData.str "lost") = True ∧ okD ("lost" : Str) = True ∧ okD (PyData.str "=") = True ∧ okD ("=" : Str) = True ∧ okD (PyData.str "<") = True ∧ okD ("<" : Str) = True := by
  refine ⟨?_, ?_, ?_, ?_, ?_, ?_, ?_, ?_, ?_, ?_, ?_, ?_, ?_, ?_, ?_, ?_, ?_, ?_, ?_, ?_, ?_, ?_, ?_, ?_, ?_, ?_, ?_, ?_, ?_, ?_, ?_, ?_⟩ <;> exact eq_true (okW (by decide +kernel))
/-! ### alike -/
theorem okP_n : okP .none := fun _ h => by cases h
theorem okP_s {x : Str} : okP (.str x) := fun _ h => by cases h
theorem okP_i {x : Int} : okP (.int x) := fun _ h => by cases h
theorem okP_l {x : List PyData} : okP (.list x) := fun _ h => by cases h
theorem okP_t {x : List PyData} : okP (.tuple x) := fun _ h => by cases h
theorem okPn : okP .none = True := eq_true okP_n
theorem okPs {x : Str} : okP (.str x) = True := eq_true okP_s
theorem okPi {x : Int} : okP (.int x) = True := eq_true okP_i
theorem okPl {x : List PyData} : okP (.list x) = True := eq_true okP_l
theorem okPt {x : List PyData} : okP (.tuple x) = True := eq_true okP_t
theorem isP_il {x : Int} : isP (.int x) "list" = false := by show (kitB "int" "list").getD false = false; decide +kernel
theorem isP_it {x : Int} : isP (.int x) "tuple" = false := by show (kitB "int" "tuple").getD false = false; decide +kernel
theorem isP_is {x : Int} : isP (.int x) "str" = false := by show (kitB "int" "str").getD false = false; decide +kernel
theorem isP_ii {x : Int} : isP (.int x) "int" = true := by show (kitB "int" "int").getD false = true; decide +kernel
theorem isP_ib {x : Int} : isP (.int x) "bool" = false := by show (kitB "int" "bool").getD false = false; decide +kernel
theorem isP_sl {x : Str} : isP (.str x) "list" = false := by show (kitB "str" "list").getD false = false; decide +kernel
theorem isP_st {x : Str} : isP (.str x) "tuple" = false := by show (kitB "str" "tuple").getD false = false; decide +kernel
theorem isP_ss {x : Str} : isP (.str x) "str" = true := by show (kitB "str" "str").getD false = true; decide +kernel
theorem isP_sb {x : Str} : isP (.str x) "bool" = false := by show (kitB "str" "bool").getD false = false; decide +kernel
theorem isP_nl : isP .none "list" = false := by show (kitB "NoneType" "list").getD false = false; decide +kernel
theorem isP_nt : isP .none "tuple" = false := by show (kitB "NoneType" "tuple").getD false = false; decide +kernel
theorem isP_ll {x : List PyData} : isP (.list x) "list" = true := by show (kitB "list" "list").getD false = true; decide +kernel
theorem isP_lt {x : List PyData} : isP (.list x) "tuple" = false := by show (kitB "list" "tuple").getD false = false; decide +kernel
theorem isP_tl {x : List PyData} : isP (.tuple x) "list" = false := by show (kitB "tuple" "list").getD false = false; decide +kernel
theorem isP_tt {x : List PyData} : isP (.tuple x) "tuple" = true := by show (kitB "tuple" "tuple").getD false = true; decide +kernel
/-- data that is compared in n steps -/
inductive Gd : Nat → PyData → Prop
  | int {n : Nat} (x : Int) : Gd (n + 1) (.int x)
  | str {n : Nat} (x : Str) (h : PyData.strOk x = true) : Gd (n + 1) (.str x)
  | non {n : Nat} : Gd (n + 1) .none
  | lst {n : Nat} {xs : List PyData} (l : xs.length ≤ 100000) (h : ∀ x ∈ xs, Gd n x) : Gd (n + 1) (.list xs)
  | tup {n : Nat} {xs : List PyData} (l : xs.length ≤ 100000) (h : ∀ x ∈ xs, Gd n x) : Gd (n + 1) (.tuple xs)
theorem Gd.up {n : Nat} {d : PyData} (h : Gd n d) : Gd (n + 1) d := by
  induction h with
  | int x => exact .int x
  | str x h => exact .str x h
  | non => exact .non
  | lst l h ih => exact .lst l ih
  | tup l h ih => exact .tup l ih
theorem zip_self {α : Type} : ∀ {xs : List α} {p : α × α}, p ∈ xs.zip xs → p.1 = p.2 ∧ p.1 ∈ xs
  | [], p, h => by cases h
  | x :: xs, p, h => by
    rw [List.zip_cons_cons] at h
    rcases List.mem_cons.mp h with rfl | h
    · exact ⟨rfl, List.mem_cons_self⟩
    · exact ⟨(zip_self h).1, List.mem_cons_of_mem _ (zip_self h).2⟩
theorem alike_self {n : Nat} {d : PyData} (g : Gd n d) : ∀ {Φ : Bool → Prop}, Φ true → (m_law_alike_R n d d).run Φ := by
  induction g with
  | int x =>
    intro Φ k
    unfold m_law_alike_R
    simp only [run_bind, run_rt, run_guard, run_if, isP_il, isP_it, isP_ii, isP_ib, isP_is, pyNone, okPi, okId, eqI', Bool.false_eq_true, if_false, if_true, Bool.not_false, true_and, decide_true]
    exact k
  | str x h =>
    intro Φ k
    unfold m_law_alike_R
    simp only [run_bind, run_rt, run_guard, run_if, isP_sl, isP_st, isP_sb, isP_ss, pyNone, okPs, eqS', Bool.false_eq_true, if_false, if_true, Bool.not_false, true_and, decide_true]
    exact ⟨⟨okW h, okW h⟩, k⟩
  | non =>
    intro Φ k
    unfold m_law_alike_R
    simp only [run_bind, run_rt, run_guard, run_if, isP_nl, isP_nt, pyNone, okPn, Bool.false_eq_true, if_false, if_true, true_and]
    exact k
  | @lst n xs l h ih =>
    intro Φ k
    unfold m_law_alike_R
    simp only [run_bind, run_rt, run_guard, run_if, run_opt, isP_ll, isP_lt, pyNone, okPl, Bool.false_eq_true, if_false, if_true, true_and, decide_true, Bool.not_true, Z.pyLen, pyZip, Option.some.injEq, exists_eq_left']
    refine compG_wp (fun _ => true) (fun _ => true) (small (by rw [List.length_zip]; omega)) (fun _ _ Ψ q => by exact q) (fun p hp _ Ψ q => ?_) ?_
    · obtain ⟨x, y⟩ := p
      obtain ⟨e, m⟩ := zip_self hp
      dsimp only at e m
      subst e
      exact ih x m q
    · have : (List.map (fun _ : PyData × PyData => true) ((xs.zip xs).filter fun _ => true)).all id = true := by simp
      rw [this]; exact k
  | @tup n xs l h ih =>
    intro Φ k
    unfold m_law_alike_R
    simp only [run_bind, run_rt, run_guard, run_if, run_opt, isP_tl, isP_tt, pyNone, okPt, Bool.false_eq_true, if_false, if_true, true_and, decide_true, Bool.not_true, Z.pyLen, pyZip, Option.some.injEq, exists_eq_left']
    refine compG_wp (fun _ => true) (fun _ => true) (small (by rw [List.length_zip]; omega)) (fun _ _ Ψ q => by exact q) (fun p hp _ Ψ q => ?_) ?_
    · obtain ⟨x, y⟩ := p
      obtain ⟨e, m⟩ := zip_self hp
      dsimp only at e m
      subst e
      exact ih x m q
    · have : (List.map (fun _ : PyData × PyData => true) ((xs.zip xs).filter fun _ => true)).all id = true := by simp
      rw [this]; exact k
theorem alike_wp {d : PyData} {Φ : Bool → Prop} (g : Gd 6 d) (k : Φ true) : (m_law_alike d d).run Φ := by
  unfold m_law_alike
  exact alike_self g k
/-! ### the reel: N draws at most are behind it -/
structure RlOk (N : Nat) (r : WReel) : Prop where
  a : r.a.length ≤ 63
  b0 : 0 < r.b.length
  b1 : r.b.length ≤ 64
  b : ∀ x ∈ r.b, 0 ≤ x ∧ x < 1000003
  c0 : 0 ≤ r.c
  c1 : r.c ≤ N
  d0 : 0 ≤ r.d
  d1 : r.d < 2 ^ 127
theorem RlOk.mo {N N' : Nat} {r : WReel} (h : RlOk N r) (e : N ≤ N') : RlOk N' r := { h with c1 := Int.le_trans h.c1 (by omega) }
theorem cpw {i j : Int} (h : 0 ≤ j ∧ j ≤ 1000000 ∧ i.natAbs < 2 ^ 64 := by decide) : CPow i j := h
theorem great_eq : ((2 : Int) ^ ((64 : Int)).toNat) * ((2 : Int) ^ ((63 : Int)).toNat) - 1 = 170141183460469231731687303715884105727 := by decide +kernel
theorem p40_eq : (2 : Int) ^ ((40 : Int)).toNat = 1099511627776 := by decide +kernel
theorem p64m : CMulW ((2 : Int) ^ ((64 : Int)).toNat) ((2 : Int) ^ ((63 : Int)).toNat) := wide_mul (a := 65) (b := 64) (by decide +kernel) (by decide +kernel) (by decide) (by decide) (by decide)
theorem draw_wp {N : Nat} {r : WReel} {many : Int} {Φ : Int × WReel → Prop} (hr : RlOk N r) (hN : N < 2 ^ 60) (h0 : 0 < many) (hm : many < 2 ^ 60) (k : ∀ x r', 0 ≤ x → x < many → RlOk (N + 1) r' → Φ (x, r')) : (m_law_draw r many).run Φ := by
  obtain ⟨a, b, c, d⟩ := r
  obtain ⟨ha, hb0, hb1, hb, hc0, hc1, hd0, hd1⟩ := hr
  dsimp only at ha hb0 hb1 hb hc0 hc1 hd0 hd1
  have lo : ∀ x : Int, 0 ≤ x % many := fun x => Int.emod_nonneg _ (by omega)
  have hi : ∀ x : Int, x % many < many := fun x => Int.emod_lt_of_pos _ h0
  unfold m_law_draw
  simp only [run_bind, run_rt, run_guard, run_if, run_opt, decide_eq_true_eq]
  refine ⟨⟨okD_pl _, okD_pl _⟩, ?_⟩
  rw [eqD_dec]
  split
  · rename_i hne
    match a, hne, ha with
    | x :: as, _, ha =>
      refine ⟨x, at0, wide_div (b := 60) h0 (by omega) (by decide) (by decide), ?_, ?_, h0, ?_⟩
      · refine ⟨?_, ?_, small ?_⟩ <;> split <;> simp
      · refine small ?_
        rw [cut_from (by decide)]
        have e1 : (repL [x / many] (if x ≥ many then (1 : Int) else 0)).length ≤ 1 := by split <;> simp [repL]
        have e2 : (List.drop (1 : Int).toNat (x :: as)).length = as.length := by simp
        rw [e2]
        simp only [List.length_cons] at ha
        omega
      · refine k _ _ (lo _) (hi _) ⟨?_, hb0, hb1, hb, hc0, by dsimp only; omega, hd0, hd1⟩
        dsimp only
        rw [cut_from (by decide), List.length_append]
        have e1 : (repL [x / many] (if x ≥ many then (1 : Int) else 0)).length ≤ 1 := by split <;> simp [repL]
        have e2 : (List.drop (1 : Int).toNat (x :: as)).length = as.length := by simp
        rw [e2]
        simp only [List.length_cons] at ha
        omega
    | [], hne, _ => simp at hne
  · have o1 := Int.emod_nonneg (c + 1) (b := (b.length : Int)) (by omega)
    have o2 := Int.emod_lt_of_pos (c + 1) (b := (b.length : Int)) (by omega)
    obtain ⟨t, ht, et⟩ := atI_some (xs := b) o1 o2
    obtain ⟨t0, t1⟩ := hb t ht
    rw [great_eq, p40_eq]
    have q1 := Int.emod_nonneg (d * d + (t + 7) * 69621 + (c + 1) * 1000003) (b := 170141183460469231731687303715884105727) (by decide)
    have q2 := Int.emod_lt_of_pos (d * d + (t + 7) * 69621 + (c + 1) * 1000003) (b := 170141183460469231731687303715884105727) (by decide)
    refine ⟨by omega, t, et, wide_mul (a := 127) (b := 127) (by omega) (by omega) (by decide) (by decide) (by decide), wide_mul (a := 32) (b := 20) (by omega) (by decide) (by decide) (by decide) (by decide), wide_mul (a := 70) (b := 20) (by omega) (by decide) (by decide) (by decide) (by decide), cpw, cpw, p64m, by decide, cpw, wide_div (b := 60) (by decide) (by decide) (by decide) (by decide), h0, ?_⟩
    refine k _ _ (lo _) (hi _) ⟨ha, hb0, hb1, hb, by dsimp only; omega, by dsimp only; omega, q1, by dsimp only; omega⟩
theorem drawB_wp {N : Nat} {r : WReel} {many : Int} {Φ : Int × WReel → Prop} (hr : RlOk N r) (hN : N < 2 ^ 60) (h0 : 0 < many) (hm : many < 2 ^ 100) (k : ∀ x r', RlOk (N + 1) r' → Φ (x, r')) : (m_law_draw r many).run Φ := by
  obtain ⟨a, b, c, d⟩ := r
  obtain ⟨ha, hb0, hb1, hb, hc0, hc1, hd0, hd1⟩ := hr
  dsimp only at ha hb0 hb1 hb hc0 hc1 hd0 hd1
  have lo : ∀ x : Int, 0 ≤ x % many := fun x => Int.emod_nonneg _ (by omega)
  have hi : ∀ x : Int, x % many < many := fun x => Int.emod_lt_of_pos _ h0
  unfold m_law_draw
  simp only [run_bind, run_rt, run_guard, run_if, run_opt, decide_eq_true_eq]
  refine ⟨⟨okD_pl _, okD_pl _⟩, ?_⟩
  rw [eqD_dec]
  split
  · rename_i hne
    match a, hne, ha with
    | x :: as, _, ha =>
      refine ⟨x, at0, wide_div (b := 100) h0 (by omega) (by decide) (by decide), ?_, ?_, h0, ?_⟩
      · refine ⟨?_, ?_, small ?_⟩ <;> split <;> simp
      · refine small ?_
        rw [cut_from (by decide)]
        have e1 : (repL [x / many] (if x ≥ many then (1 : Int) else 0)).length ≤ 1 := by split <;> simp [repL]
        have e2 : (List.drop (1 : Int).toNat (x :: as)).length = as.length := by simp
        rw [e2]
        simp only [List.length_cons] at ha
        omega
      · refine k _ _ ⟨?_, hb0, hb1, hb, hc0, by dsimp only; omega, hd0, hd1⟩
        dsimp only
        rw [cut_from (by decide), List.length_append]
        have e1 : (repL [x / many] (if x ≥ many then (1 : Int) else 0)).length ≤ 1 := by split <;> simp [repL]
        have e2 : (List.drop (1 : Int).toNat (x :: as)).length = as.length := by simp
        rw [e2]
        simp only [List.length_cons] at ha
        omega
    | [], hne, _ => simp at hne
  · have o1 := Int.emod_nonneg (c + 1) (b := (b.length : Int)) (by omega)
    have o2 := Int.emod_lt_of_pos (c + 1) (b := (b.length : Int)) (by omega)
    obtain ⟨t, ht, et⟩ := atI_some (xs := b) o1 o2
    obtain ⟨t0, t1⟩ := hb t ht
    rw [great_eq, p40_eq]
    have q1 := Int.emod_nonneg (d * d + (t + 7) * 69621 + (c + 1) * 1000003) (b := 170141183460469231731687303715884105727) (by decide)
    have q2 := Int.emod_lt_of_pos (d * d + (t + 7) * 69621 + (c + 1) * 1000003) (b := 170141183460469231731687303715884105727) (by decide)
    refine ⟨by omega, t, et, wide_mul (a := 127) (b := 127) (by omega) (by omega) (by decide) (by decide) (by decide), wide_mul (a := 32) (b := 20) (by omega) (by decide) (by decide) (by decide) (by decide), wide_mul (a := 70) (b := 20) (by omega) (by decide) (by decide) (by decide) (by decide), cpw, cpw, p64m, by decide, cpw, wide_div (b := 100) (by decide) (by decide) (by decide) (by decide), h0, ?_⟩
    refine k _ _ ⟨ha, hb0, hb1, hb, by dsimp only; omega, by dsimp only; omega, q1, by dsimp only; omega⟩
theorem reel_wp {ns : List Int} {Φ : WReel → Prop} (k : ∀ r, RlOk 0 r → Φ r) : (m_law_reel ns).run Φ := by
  have hl : (Z.cut ns none (some (63 : Int))).length ≤ 63 := by rw [cut_to (by decide)]; simp; omega
  unfold m_law_reel
  simp only [run_bind, run_rt, run_guard]
  refine ⟨cpw, ?_⟩
  refine forL_wp (fun _ (s : Int) => 0 ≤ s ∧ s < 2 ^ 127) ⟨by decide +kernel, by decide +kernel⟩ ?_ ?_
  · rintro i x s _ ⟨s0, s1⟩
    unfold m_law_reel_L1
    simp only [run_bind, run_rt, run_guard]
    rw [great_eq]
    have q1 := Int.emod_nonneg (s * s + x % 1000000000000000003 + 11) (b := 170141183460469231731687303715884105727) (by decide)
    have q2 := Int.emod_lt_of_pos (s * s + x % 1000000000000000003 + 11) (b := 170141183460469231731687303715884105727) (by decide)
    exact ⟨wide_mul (a := 127) (b := 127) (by omega) (by omega) (by decide) (by decide) (by decide), cpw, cpw, p64m, by decide, q1, by omega⟩
  · rintro s ⟨s0, s1⟩
    unfold m_law_reel_R1
    simp only [run_bind, run_rt, run_guard]
    refine compG_wp (fun x => decide (x ≥ (10 : Int) ^ ((18 : Int)).toNat)) (fun x => x - (10 : Int) ^ ((18 : Int)).toNat) (small (by omega)) (fun x _ Ψ q => ⟨cpw, q⟩) (fun x _ _ Ψ q => ⟨cpw, q⟩) ?_
    refine compG_wp (fun x => true) (fun x => x % 1000003) (small (by omega)) (fun x _ Ψ q => q) (fun x _ _ Ψ q => q) ?_
    rw [List.filter_eq_self.mpr (fun _ _ => rfl)]
    refine ⟨small (by rw [List.length_map, List.length_cons, List.length_nil]; omega), k _ ⟨?_, ?_, ?_, ?_, Int.le_refl _, Int.le_refl _, s0, s1⟩⟩
    · dsimp only; rw [List.length_map]; exact Nat.le_trans (List.length_filter_le _ _) hl
    · dsimp only; rw [List.length_append, List.length_cons]; omega
    · dsimp only; rw [List.length_append, List.length_map, List.length_cons, List.length_nil]; omega
    · dsimp only
      intro x hx
      rcases List.mem_append.mp hx with h | h
      · obtain ⟨y, _, rfl⟩ := List.mem_map.mp h
        exact ⟨Int.emod_nonneg _ (by decide), Int.emod_lt_of_pos _ (by decide)⟩
      · rw [List.mem_singleton.mp h]; exact ⟨by decide, by decide⟩
end M
/-! # works: rows, values, a hand led on -/
namespace M
open PySem L2 Z
/-! ### boxes -/
def ltr (b : Nat) : Str := ⟨#[(("abcdefgh" : Str).cps.toList.getD b 0)]⟩
theorem ltr_ix : ∀ b : Fin 8, sIdx ("abcdefgh" : Str) (ltr b.val) = some (b.val : Int) := by decide +kernel
theorem ix_ltr {b : Nat} (h : b < 8) : sIdx ("abcdefgh" : Str) (ltr b) = some (b : Int) := ltr_ix ⟨b, h⟩
/-! ### what a row says -/
inductive Pln where
  | num (n : Int)
  | box (b : Nat)
def Pln.enc : Pln → PyData
  | .num n => .tuple [.str "number", .int n]
  | .box b => .tuple [.str "box", .str (ltr b)]
def Pln.ok : Pln → Prop
  | .num n => 0 ≤ n ∧ n < 1000
  | .box b => b < 8
def Pln.val (h : List Int) : Pln → Int
  | .num n => n
  | .box b => h.getD b 0
inductive Wth where
  | one (p : Pln)
  | plus (p q : Pln)
  | minus (p q : Pln)
def Wth.enc : Wth → PyData
  | .one p => p.enc
  | .plus p q => .tuple [.str "plus", p.enc, q.enc]
  | .minus p q => .tuple [.str "minus", p.enc, q.enc]
def Wth.ok : Wth → Prop
  | .one p => p.ok
  | .plus p q => p.ok ∧ q.ok
  | .minus p q => p.ok ∧ q.ok
def Wth.val (h : List Int) : Wth → Int
  | .one p => p.val h
  | .plus p q => (p.val h + q.val h) % 1000
  | .minus p q => (p.val h - q.val h) % 1000
theorem atN {l : List Int} {b : Nat} (h : b < l.length) : atI l (b : Int) = some (l.getD b 0) := by
  refine atI_nat ?_
  rw [List.getD_eq_getElem?_getD, List.getElem?_eq_getElem h]
  rfl
section
variable {h : List Int} {p : Pln} {w : Wth} {n : Nat} {Φ : Int → Prop}
theorem pnow_wp (hl : h.length = 8) (ok : p.ok) (k : Φ (p.val h)) : (m_worth_now_R (n + 1) h p.enc).run Φ := by
  cases p with
  | num x =>
    unfold m_worth_now_R Pln.enc
    simp only [run_bind, run_bind2, run_rt, run_guard, run_if, run_opt, pt, at0, at1, at2, at3, at4, atL3, atL4, eqS, frSd, frId, neW, okA, decide_true, decide_false, decide_eq_true_eq, Bool.false_eq_true, Bool.true_eq_false, if_true, if_false, Bool.not_true, Bool.not_false, Option.some.injEq, exists_eq_left', true_and, and_true, and_self]
    exact k
  | box b =>
    have ok : b < 8 := ok
    unfold m_worth_now_R Pln.enc
    simp only [run_bind, run_bind2, run_rt, run_guard, run_if, run_opt, pt, at0, at1, at2, at3, at4, atL3, atL4, eqS, frSd, frId, neW, okA, decide_true, decide_false, decide_eq_true_eq, Bool.false_eq_true, Bool.true_eq_false, if_true, if_false, Bool.not_true, Bool.not_false, Option.some.injEq, exists_eq_left', true_and, and_true, and_self, ix_ltr ok, atN (show b < h.length by omega)]
    exact k
theorem now_wp (hl : h.length = 8) (ok : w.ok) (k : Φ (w.val h)) : (m_worth_now h w.enc).run Φ := by
  unfold m_worth_now
  cases w with
  | one p => exact pnow_wp hl ok k
  | plus p q =>
    unfold m_worth_now_R Wth.enc
    simp only [run_bind, run_bind2, run_rt, run_guard, run_if, run_opt, pt, at0, at1, at2, at3, at4, atL3, atL4, eqS, frSd, frId, neW, okA, decide_true, decide_false, decide_eq_true_eq, Bool.false_eq_true, Bool.true_eq_false, if_true, if_false, Bool.not_true, Bool.not_false, Option.some.injEq, exists_eq_left', true_and, and_true, and_self]
    refine pnow_wp hl ok.1 (pnow_wp hl ok.2 ⟨by decide, k⟩)
  | minus p q =>
    unfold m_worth_now_R Wth.enc
    simp only [run_bind, run_bind2, run_rt, run_guard, run_if, run_opt, pt, at0, at1, at2, at3, at4, atL3, atL4, eqS, frSd, frId, neW, okA, decide_true, decide_false, decide_eq_true_eq, Bool.false_eq_true, Bool.true_eq_false, if_true, if_false, Bool.not_true, Bool.not_false, Option.some.injEq, exists_eq_left', true_and, and_true, and_self]
    refine pnow_wp hl ok.1 (pnow_wp hl ok.2 ⟨by decide, k⟩)
end
/-! ### rows -/
inductive Rw where
  | load (b : Nat) (c : Nat)
  | store (c : Nat) (w : Wth)
  | swap (b : Nat) (c : Nat) (w : Wth)
  | lett (b : Nat) (w : Wth)
  | say (w : Wth)
  | go (t : Nat)
  | unless (lt : Bool) (w w' : Wth) (t : Nat)
def sgn (lt : Bool) : Str := if lt then "<" else "="
def Rw.enc : Rw → PyData
  | .load b c => .tuple [.str "load", .str (ltr b), .int c]
  | .store c w => .tuple [.str "store", .int c, w.enc]
  | .swap b c w => .tuple [.str "swap", .str (ltr b), .int c, w.enc]
  | .lett b w => .tuple [.str "let", .str (ltr b), w.enc]
  | .say w => .tuple [.str "say", w.enc]
  | .go t => .tuple [.str "go", .int t]
  | .unless lt w w' t => .tuple [.str "unless", .str (sgn lt), w.enc, w'.enc, .int t]
/-- for m cells and n rows -/
def Rw.ok (m n : Nat) : Rw → Prop
  | .load b c => b < 8 ∧ c < m
  | .store c w => c < m ∧ w.ok
  | .swap b c w => b < 8 ∧ c < m ∧ w.ok
  | .lett b w => b < 8 ∧ w.ok
  | .say w => w.ok
  | .go t => t ≤ n
  | .unless _ w w' t => w.ok ∧ w'.ok ∧ t ≤ n
def Rw.own : Rw → Bool
  | .load _ _ => false
  | .store _ _ => false
  | .swap _ _ _ => false
  | _ => true
/-- what a hand holds as it goes -/
structure HS where
  pos : Nat
  held : List Int
  said : List Int
def stp (s : HS) : Rw → HS
  | .lett b w => { s with pos := s.pos + 1, held := s.held.set b (w.val s.held) }
  | .say w => { s with pos := s.pos + 1, said := s.said ++ [w.val s.held] }
  | .go t => { s with pos := t }
  | .unless lt w w' t => if (if lt then decide (w.val s.held < w'.val s.held) else decide (w.val s.held = w'.val s.held)) then { s with pos := s.pos + 1 } else { s with pos := t }
  | _ => s
def led : Nat → List Rw → HS → HS × Str
  | 0, rows, s => match rows[s.pos]? with
    | none => (s, "ends")
    | some r => if r.own then (s, "lost") else (s, "waits")
  | n + 1, rows, s => match rows[s.pos]? with
    | none => (s, "ends")
    | some r => if r.own then led n rows (stp s r) else (s, "waits")
def tHand (rows : List Rw) (s : HS) (way : Str) : ObHand := ⟨rows.map Rw.enc, s.pos, s.held, s.said, way⟩
structure HOk (n B : Nat) (s : HS) : Prop where
  pos : s.pos ≤ n
  held : s.held.length = 8
  said : s.said.length ≤ B
theorem HOk.mo {n B B' : Nat} {s : HS} (h : HOk n B s) (e : B ≤ B') : HOk n B' s := ⟨h.pos, h.held, Nat.le_trans h.said e⟩
theorem stp_ok {m n B : Nat} {s : HS} {r : Rw} (h : HOk n B s) (hp : s.pos < n) (ok : r.ok m n) : HOk n (B + 1) (stp s r) := by
  obtain ⟨h1, h2, h3⟩ := h
  cases r with
  | lett b w => exact ⟨hp, by simp [stp, h2], Nat.le_succ_of_le h3⟩
  | say w => exact ⟨hp, h2, by simp [stp]; exact h3⟩
  | go t => exact ⟨ok, h2, Nat.le_succ_of_le h3⟩
  | «unless» lt w w' t =>
    have q : ∀ c : Bool, HOk n (B + 1) (if c = true then { s with pos := s.pos + 1 } else { s with pos := t }) := fun c => by
      cases c
      · exact ⟨ok.2.2, h2, Nat.le_succ_of_le h3⟩
      · exact ⟨hp, h2, Nat.le_succ_of_le h3⟩
    exact q _
  | load b c => exact ⟨h1, h2, Nat.le_succ_of_le h3⟩
  | store c w => exact ⟨h1, h2, Nat.le_succ_of_le h3⟩
  | swap b c w => exact ⟨h1, h2, Nat.le_succ_of_le h3⟩
theorem at_rows {rows : List Rw} {i : Nat} {r : Rw} (h : rows[i]? = some r) : atI (rows.map Rw.enc) (i : Int) = some r.enc := atI_nat (by rw [List.getElem?_map, h]; rfl)
section
variable {m n B : Nat} {s : HS} {r : Rw} {rows : List Rw} {way : Str} {k : Int}
theorem put_in_wp {b : Nat} {x : Int} {Φ : Unit × ObHand → Prop} (hl : s.held.length = 8) (hb : b < 8) (q : Φ ((), tHand rows { s with held := s.held.set b x } way)) : (m_put_in (tHand rows s way) (ltr b) x).run Φ := by
  unfold m_put_in tHand
  simp only [run_bind, run_bind2, run_rt, run_guard, run_if, run_opt, pt, at0, at1, at2, at3, at4, atL3, atL4, eqS, frSd, frId, neW, okA, decide_true, decide_false, decide_eq_true_eq, Bool.false_eq_true, Bool.true_eq_false, if_true, if_false, Bool.not_true, Bool.not_false, Option.some.injEq, exists_eq_left', true_and, and_true, and_self, ix_ltr hb]
  refine sti_wp (by omega) (by omega) ?_
  rw [Int.toNat_natCast]
  exact q
theorem own_wp {Φ : Unit × ObHand → Prop} (h : HOk n B s) (hB : B ≤ 90000) (ok : r.ok m n) (hr : r.own = true) (q : Φ ((), tHand rows (stp s r) way)) : (m_do_own (tHand rows s way) r.enc).run Φ := by
  unfold m_do_own tHand
  cases r with
  | load b c => cases hr
  | store c w => cases hr
  | swap b c w => cases hr
  | lett b w =>
    unfold Rw.enc
    simp only [run_bind, run_bind2, run_rt, run_guard, run_if, run_opt, pt, at0, at1, at2, at3, at4, atL3, atL4, eqS, frSd, frId, neW, okA, decide_true, decide_false, decide_eq_true_eq, Bool.false_eq_true, Bool.true_eq_false, if_true, if_false, Bool.not_true, Bool.not_false, Option.some.injEq, exists_eq_left', true_and, and_true, and_self]
    refine now_wp h.held ok.2 ?_
    exact put_in_wp (rows := rows) (s := { s with pos := s.pos + 1 }) h.held ok.1 q
  | say w =>
    unfold Rw.enc
    simp only [run_bind, run_bind2, run_rt, run_guard, run_if, run_opt, pt, at0, at1, at2, at3, at4, atL3, atL4, eqS, frSd, frId, neW, okA, decide_true, decide_false, decide_eq_true_eq, Bool.false_eq_true, Bool.true_eq_false, if_true, if_false, Bool.not_true, Bool.not_false, Option.some.injEq, exists_eq_left', true_and, and_true, and_self]
    refine now_wp h.held ok ?_
    exact apd_wp (by have := h.said; omega) q
  | go t =>
    unfold Rw.enc
    simp only [run_bind, run_bind2, run_rt, run_guard, run_if, run_opt, pt, at0, at1, at2, at3, at4, atL3, atL4, eqS, frSd, frId, neW, okA, decide_true, decide_false, decide_eq_true_eq, Bool.false_eq_true, Bool.true_eq_false, if_true, if_false, Bool.not_true, Bool.not_false, Option.some.injEq, exists_eq_left', true_and, and_true, and_self]
    exact q
  | «unless» lt w w' t =>
    unfold Rw.enc m_is_so
    simp only [run_bind, run_bind2, run_rt, run_guard, run_if, run_opt, pt, at0, at1, at2, at3, at4, atL3, atL4, eqS, frSd, frId, neW, okA, decide_true, decide_false, decide_eq_true_eq, Bool.false_eq_true, Bool.true_eq_false, if_true, if_false, Bool.not_true, Bool.not_false, Option.some.injEq, exists_eq_left', true_and, and_true, and_self]
    unfold stp at q
    cases lt with
    | false =>
      rw [if_pos (show sgn false = "=" from rfl)]
      refine now_wp h.held ok.1 (now_wp h.held ok.2.1 ?_)
      by_cases c : w.val s.held = w'.val s.held
      · rw [decide_eq_true c]
        simp only [c, Bool.false_eq_true, if_false, decide_true, if_true] at q
        exact q
      · rw [decide_eq_false c]
        simp only [c, Bool.false_eq_true, if_false, decide_false] at q
        exact q
    | true =>
      rw [if_neg (show ¬ sgn true = "=" by decide +kernel)]
      refine now_wp h.held ok.1 (now_wp h.held ok.2.1 ?_)
      by_cases c : w.val s.held < w'.val s.held
      · rw [decide_eq_true c]
        simp only [c, if_true, decide_true] at q
        exact q
      · rw [decide_eq_false c]
        simp only [c, if_true, decide_false, Bool.false_eq_true, if_false] at q
        exact q
/-- a row's first word, and whether it is one's own -/
def Rw.word : Rw → Str
  | .load _ _ => "load"
  | .store _ _ => "store"
  | .swap _ _ _ => "swap"
  | .lett _ _ => "let"
  | .say _ => "say"
  | .go _ => "go"
  | .unless _ _ _ _ => "unless"
theorem word_ix (r : Rw) : pyIx r.enc (0 : Int) = some (.str r.word) := by cases r <;> exact at0
theorem word_touch (r : Rw) : (r.word ∈ ([("load" : Str), ("store" : Str), ("swap" : Str)] : List Str)) = (r.own = false) := by
  cases r <;> simp only [Rw.word, Rw.own, List.mem_cons, List.not_mem_nil, neW, or_false, or_true, true_or, false_or, Bool.true_eq_false]
def Rows (m n : Nat) (rows : List Rw) : Prop := rows.length = n ∧ ∀ r ∈ rows, r.ok m n
theorem rng_cons {a b : Int} (h : a < b) : rng a b = a :: rng (a + 1) b := by
  apply List.ext_getElem
  · rw [List.length_cons, rng_len, rng_len]; omega
  · intro i h1 h2
    cases i with
    | zero => simp [rng]
    | succ i => simp [rng]; omega
theorem rng_nil {a b : Int} (h : b ≤ a) : rng a b = [] := by
  apply List.length_eq_zero_iff.mp
  rw [rng_len]; omega
theorem lead_wp {Φ : Unit × ObHand → Prop} (h : HOk n B s) (hB : B + 60 ≤ 90000) (hr : Rows m n rows) (q : Φ ((), tHand rows (led 60 rows s).1 (led 60 rows s).2)) : (m_lead_on (tHand rows s way)).run Φ := by
  unfold m_lead_on
  simp only [run_bind, run_bind2, run_rt, run_guard, run_if, run_opt, pt, at0, at1, at2, at3, at4, atL3, atL4, eqS, frSd, frId, neW, okA, decide_true, decide_false, decide_eq_true_eq, Bool.false_eq_true, Bool.true_eq_false, if_true, if_false, Bool.not_true, Bool.not_false, Option.some.injEq, exists_eq_left', true_and, and_true, and_self]
  refine ⟨⟨by decide, by decide, by decide, by decide⟩, ?_⟩
  have key : ∀ (f : Nat) (s : HS) (B : Nat), HOk n B s → B + f ≤ 90000 → f ≤ 60 → Φ ((), tHand rows (led f rows s).1 (led f rows s).2) → (W.forC (rng (60 - (f : Int)) (60 + 1)) (tHand rows s way) (fun a s => m_lead_on_L1 a s)).run fun c => (W.after c (fun s => m_lead_on_R1 s)).run Φ := by
    intro f
    induction f with
    | zero =>
      intro s B h hB _ q
      rw [rng_cons (by omega), rng_nil (by omega)]
      unfold W.forC m_lead_on_L1 tHand
      simp only [run_bind, run_bind2, run_rt, run_guard, run_if, run_opt, pt, at0, at1, at2, at3, at4, atL3, atL4, eqS, frSd, frId, neW, okA, decide_true, decide_false, decide_eq_true_eq, Bool.false_eq_true, Bool.true_eq_false, if_true, if_false, Bool.not_true, Bool.not_false, Option.some.injEq, exists_eq_left', true_and, and_true, and_self, List.length_map]
      unfold led at q
      by_cases c : s.pos = rows.length
      · rw [if_pos (by rw [c])]
        rw [List.getElem?_eq_none (by omega)] at q
        exact q
      · rw [if_neg (by omega)]
        have hp : s.pos < rows.length := by have := h.pos; have := hr.1; omega
        have e := List.getElem?_eq_getElem hp
        generalize rows[s.pos] = r at e
        rw [e] at q
        simp only [run_bind, run_bind2, run_rt, run_guard, run_if, run_opt, pt, at0, at1, at2, at3, at4, atL3, atL4, eqS, frSd, frId, neW, okA, decide_true, decide_false, decide_eq_true_eq, Bool.false_eq_true, Bool.true_eq_false, if_true, if_false, Bool.not_true, Bool.not_false, Option.some.injEq, exists_eq_left', true_and, and_true, and_self, at_rows e, word_ix, word_touch]
        by_cases d : r.own = true
        · simp only [d, if_true] at q
          rw [if_neg (by rw [d]; decide), if_neg (by decide)]
          exact q
        · simp only [d, if_false, Bool.false_eq_true] at q
          rw [if_pos (by simpa using d)]
          exact q
    | succ f ih =>
      intro s B h hB hf q
      rw [rng_cons (by omega)]
      unfold W.forC
      unfold m_lead_on_L1
      unfold tHand
      simp only [run_bind, run_bind2, run_rt, run_guard, run_if, run_opt, pt, at0, at1, at2, at3, at4, atL3, atL4, eqS, frSd, frId, neW, okA, decide_true, decide_false, decide_eq_true_eq, Bool.false_eq_true, Bool.true_eq_false, if_true, if_false, Bool.not_true, Bool.not_false, Option.some.injEq, exists_eq_left', true_and, and_true, and_self, List.length_map]
      unfold led at q
      by_cases c : s.pos = rows.length
      · rw [if_pos (by rw [c])]
        rw [List.getElem?_eq_none (by omega)] at q
        exact q
      · rw [if_neg (by omega)]
        have hp : s.pos < rows.length := by have := h.pos; have := hr.1; omega
        have e := List.getElem?_eq_getElem hp
        have ok := hr.2 _ (List.getElem_mem hp)
        generalize rows[s.pos] = r at e ok
        rw [e] at q
        simp only [run_bind, run_bind2, run_rt, run_guard, run_if, run_opt, pt, at0, at1, at2, at3, at4, atL3, atL4, eqS, frSd, frId, neW, okA, decide_true, decide_false, decide_eq_true_eq, Bool.false_eq_true, Bool.true_eq_false, if_true, if_false, Bool.not_true, Bool.not_false, Option.some.injEq, exists_eq_left', true_and, and_true, and_self, at_rows e, word_ix, word_touch]
        by_cases d : r.own = true
        · simp only [d, if_true] at q
          rw [if_neg (by rw [d]; decide), if_pos (by omega)]
          refine own_wp (rows := rows) (s := s) (way := way) h (by omega) ok d ?_
          have := ih (stp s r) (B + 1) (stp_ok h (by have := hr.1; omega) ok) (by omega) (by omega) q
          rw [show (60 : Int) - ((f + 1 : Nat) : Int) + 1 = 60 - (f : Int) by omega]
          exact this
        · simp only [d, if_false, Bool.false_eq_true] at q
          rw [if_pos (by simpa using d)]
          exact q
  have := key 60 s B h hB (Nat.le_refl _) q
  exact this
theorem led_ok : ∀ {f : Nat} {s : HS} {B : Nat}, HOk n B s → Rows m n rows → HOk n (B + f) (led f rows s).1 := by
  intro f
  induction f with
  | zero =>
    intro s B h hr
    unfold led
    split
    · exact h
    · split
      · exact h
      · exact h
  | succ f ih =>
    intro s B h hr
    unfold led
    split
    · exact h.mo (by omega)
    · rename_i r e
      split
      · have hp := (List.getElem?_eq_some_iff.mp e).1
        have := ih (stp_ok h (by have := hr.1; omega) (hr.2 _ (List.mem_of_getElem? e))) hr
        rw [Nat.add_assoc, Nat.add_comm 1 f] at this
        exact this
      · exact h.mo (by omega)
/-- a hand that waits, waits at a touch -/
theorem led_waits : ∀ {f : Nat} {s : HS}, (led f rows s).2 = "waits" → ∃ r, rows[(led f rows s).1.pos]? = some r ∧ r.own = false := by
  intro f
  induction f with
  | zero =>
    intro s e
    unfold led at e ⊢
    cases q : rows[s.pos]? with
    | none => simp only [q, neW] at e
    | some r =>
      cases d : r.own with
      | true => simp only [q, d, neW, if_true] at e
      | false => exact ⟨r, by simp only [d, q, Bool.false_eq_true, if_false], d⟩
  | succ f ih =>
    intro s e
    unfold led at e ⊢
    cases q : rows[s.pos]? with
    | none => simp only [q, neW] at e
    | some r =>
      cases d : r.own with
      | true =>
        simp only [q, d, if_true] at e ⊢
        exact ih e
      | false => exact ⟨r, by simp only [d, q, Bool.false_eq_true, if_false], d⟩
theorem led_word : ∀ {f : Nat} {s : HS}, (led f rows s).2 = "waits" ∨ (led f rows s).2 = "ends" ∨ (led f rows s).2 = "lost" := by
  intro f
  induction f with
  | zero =>
    intro s
    unfold led
    split
    · exact .inr (.inl rfl)
    · split
      · exact .inr (.inr rfl)
      · exact .inl rfl
  | succ f ih =>
    intro s
    unfold led
    split
    · exact .inr (.inl rfl)
    · split
      · exact ih
      · exact .inl rfl
end
end M
/-! # works: touches, turns, the beginning -/
namespace M
open PySem L2 Z
abbrev Tld := P4 Str Int (Option Int) (Option Int)
def tch (cells : List Int) (s : HS) : Rw → List Int × HS × Tld
  | .load b c => (cells, { s with pos := s.pos + 1, held := s.held.set b (cells.getD c 0) }, ⟨"load", c, some (cells.getD c 0), none⟩)
  | .store c w => (cells.set c (w.val s.held), { s with pos := s.pos + 1 }, ⟨"store", c, none, some (w.val s.held)⟩)
  | .swap b c w => (cells.set c (w.val s.held), { s with pos := s.pos + 1, held := s.held.set b (cells.getD c 0) }, ⟨"swap", c, some (cells.getD c 0), some (w.val s.held)⟩)
  | _ => (cells, s, ⟨"", 0, none, none⟩)
structure HT where
  rows : List Rw
  s : HS
  way : Str
structure PS where
  cells : List Int
  hands : List HT
  past : List Int
def HT.tH (h : HT) : ObHand := tHand h.rows h.s h.way
def PS.tW (p : PS) : ObWorks := ⟨p.cells, p.hands.map HT.tH, p.past⟩
def PS.prog (p : PS) (m : Int) : Int × List (List PyData) := (m, p.hands.map fun h => h.rows.map Rw.enc)
def PS.next (p : PS) (k : Nat) (h : HT) (r : Rw) : PS :=
  { cells := (tch p.cells h.s r).1, hands := p.hands.set k ⟨h.rows, (led 60 h.rows (tch p.cells h.s r).2.1).1, (led 60 h.rows (tch p.cells h.s r).2.1).2⟩, past := p.past ++ [(k : Int)] }
structure HTOk (m B : Nat) (h : HT) : Prop where
  hs : HOk h.rows.length B h.s
  rows : Rows m h.rows.length h.rows
  wt : h.way = "waits" → ∃ r, h.rows[h.s.pos]? = some r ∧ r.own = false
  wd : h.way = "waits" ∨ h.way = "ends" ∨ h.way = "lost"
structure PSOk (m B : Nat) (p : PS) : Prop where
  cells : p.cells.length = m
  hands : ∀ h ∈ p.hands, HTOk m B h
  few : p.hands.length ≤ 8
  past : ∀ k ∈ p.past, 0 ≤ k ∧ k < p.hands.length
theorem HTOk.mo {m B B' : Nat} {h : HT} (o : HTOk m B h) (e : B ≤ B') : HTOk m B' h := { o with hs := o.hs.mo e }
theorem PSOk.mo {m B B' : Nat} {p : PS} (o : PSOk m B p) (e : B ≤ B') : PSOk m B' p := { o with hands := fun h hh => (o.hands h hh).mo e }
theorem tch_ok {m n B : Nat} {cells : List Int} {s : HS} {r : Rw} (h : HOk n B s) (hp : s.pos < n) : HOk n B (tch cells s r).2.1 := by
  obtain ⟨h1, h2, h3⟩ := h
  cases r with
  | load b c => exact ⟨hp, by simp [tch, h2], h3⟩
  | store c w => exact ⟨hp, h2, h3⟩
  | swap b c w => exact ⟨hp, by simp [tch, h2], h3⟩
  | _ => exact ⟨h1, h2, h3⟩
theorem tch_cells {cells : List Int} {s : HS} {r : Rw} : (tch cells s r).1.length = cells.length := by
  cases r <;> simp [tch]
theorem PSOk.next {m B : Nat} {p : PS} {k : Nat} {h : HT} {r : Rw} (o : PSOk m B p) (hk : p.hands[k]? = some h) (hr : h.rows[h.s.pos]? = some r) : PSOk m (B + 60) (p.next k h r) := by
  have oh := o.hands h (List.mem_of_getElem? hk)
  have hl := (List.getElem?_eq_some_iff.mp hk).1
  refine ⟨by unfold PS.next; dsimp only; rw [tch_cells]; exact o.cells, ?_, by unfold PS.next; dsimp only; rw [List.length_set]; exact o.few, ?_⟩
  · intro x hx
    rcases List.mem_or_eq_of_mem_set hx with hx | rfl
    · exact (o.hands x hx).mo (by omega)
    · exact ⟨led_ok (tch_ok (m := m) oh.hs (List.getElem?_eq_some_iff.mp hr).1) oh.rows, oh.rows, fun e => led_waits e, led_word⟩
  · intro x hx
    unfold PS.next
    dsimp only
    rw [List.length_set]
    rcases List.mem_append.mp hx with hx | hx
    · exact o.past x hx
    · rw [List.mem_singleton.mp hx]; exact ⟨by omega, by omega⟩
theorem setI_nat {α : Type} {xs : List α} {k : Nat} {x : α} (h : k < xs.length) : setI xs (k : Int) x = xs.set k x := by
  unfold setI
  rw [ixN_nat' (by omega) (by omega)]
  simp
section
variable {m B : Nat} {p : PS} {k : Nat} {h : HT} {r : Rw} {way : Str}
theorem getD_set {l : List Int} {c : Nat} {x : Int} (h : c < l.length) : (l.set c x).getD c 0 = x := by
  rw [List.getD_eq_getElem?_getD, List.getElem?_set]
  simp [h]
theorem touch_wp {s : HS} {rows : List Rw} {cells : List Int} {n : Nat} {Φ : Tld × ObHand × List Int → Prop} (hs : HOk n B s) (hr : rows[s.pos]? = some r) (ow : r.own = false) (ok : r.ok m n) (hc : cells.length = m) (q : Φ ((tch cells s r).2.2, tHand rows (tch cells s r).2.1 way, (tch cells s r).1)) : (m_do_touch (tHand rows s way) cells).run Φ := by
  unfold m_do_touch
  unfold tHand
  simp only [run_bind, run_bind2, run_rt, run_guard, run_if, run_opt, pt, at0, at1, at2, at3, at4, atL3, atL4, eqS, frSd, frId, neW, okA, decide_true, decide_false, decide_eq_true_eq, Bool.false_eq_true, Bool.true_eq_false, if_true, if_false, Bool.not_true, Bool.not_false, Option.some.injEq, exists_eq_left', true_and, and_true, and_self, at_rows hr]
  cases r with
  | load b c =>
    unfold Rw.enc
    obtain ⟨k1, k2⟩ := ok
    simp only [run_bind, run_bind2, run_rt, run_guard, run_if, run_opt, pt, at0, at1, at2, at3, at4, atL3, atL4, eqS, frSd, frId, neW, okA, decide_true, decide_false, decide_eq_true_eq, Bool.false_eq_true, Bool.true_eq_false, if_true, if_false, Bool.not_true, Bool.not_false, Option.some.injEq, exists_eq_left', true_and, and_true, and_self, atN (show c < cells.length by omega)]
    exact put_in_wp (rows := rows) (s := { s with pos := s.pos + 1 }) hs.held k1 q
  | store c w =>
    unfold Rw.enc
    obtain ⟨k1, k2⟩ := ok
    simp only [run_bind, run_bind2, run_rt, run_guard, run_if, run_opt, pt, at0, at1, at2, at3, at4, atL3, atL4, eqS, frSd, frId, neW, okA, decide_true, decide_false, decide_eq_true_eq, Bool.false_eq_true, Bool.true_eq_false, if_true, if_false, Bool.not_true, Bool.not_false, Option.some.injEq, exists_eq_left', true_and, and_true, and_self]
    refine now_wp hs.held k2 ?_
    refine sti_wp (by omega) (by omega) ?_
    rw [Int.toNat_natCast]
    refine ⟨_, atN (by rw [List.length_set]; omega), ?_⟩
    rw [getD_set (by omega)]
    exact q
  | swap b c w =>
    unfold Rw.enc
    obtain ⟨k1, k2, k3⟩ := ok
    simp only [run_bind, run_bind2, run_rt, run_guard, run_if, run_opt, pt, at0, at1, at2, at3, at4, atL3, atL4, eqS, frSd, frId, neW, okA, decide_true, decide_false, decide_eq_true_eq, Bool.false_eq_true, Bool.true_eq_false, if_true, if_false, Bool.not_true, Bool.not_false, Option.some.injEq, exists_eq_left', true_and, and_true, and_self, atN (show c < cells.length by omega)]
    refine now_wp hs.held k3 ?_
    refine sti_wp (by omega) (by omega) ?_
    rw [Int.toNat_natCast]
    refine put_in_wp (rows := rows) (s := { s with pos := s.pos + 1 }) hs.held k1 ?_
    refine ⟨_, atN (by rw [List.length_set]; omega), ?_⟩
    rw [getD_set (by omega)]
    exact q
  | _ => cases ow
theorem at_hand (e : p.hands[k]? = some h) : atI (p.hands.map HT.tH) (k : Int) = some h.tH := atI_nat (by rw [List.getElem?_map, e]; rfl)
end
/-! ### the beginning -/
def beg (cells : List Int) (rs : List (List Rw)) : PS := ⟨cells, rs.map fun rows => ⟨rows, (led 60 rows ⟨0, List.replicate 8 0, []⟩).1, (led 60 rows ⟨0, List.replicate 8 0, []⟩).2⟩, []⟩
theorem rep8 : repL ([(0 : Int)] : List Int) (8 : Int) = List.replicate 8 0 := by decide
theorem len8 : ((("abcdefgh" : Str)).length : Int) = 8 := by decide +kernel
theorem hs0_ok {n : Nat} : HOk n 0 ⟨0, List.replicate 8 0, []⟩ := ⟨Nat.zero_le _, rfl, Nat.le_refl _⟩
def RsOk (m : Nat) (rs : List (List Rw)) : Prop := rs.length ≤ 8 ∧ ∀ rows ∈ rs, Rows m rows.length rows
theorem beg_ok {m : Nat} {cells : List Int} {rs : List (List Rw)} (hc : cells.length = m) (h : RsOk m rs) : PSOk m 60 (beg cells rs) := by
  refine ⟨hc, fun x hx => ?_, by unfold beg; dsimp only; rw [List.length_map]; exact h.1, fun k hk => by cases hk⟩
  obtain ⟨rows, hr, rfl⟩ := List.mem_map.mp hx
  refine ⟨?_, h.2 rows hr, fun e => led_waits e, led_word⟩
  have := led_ok (f := 60) (hs0_ok (n := rows.length)) (h.2 rows hr)
  rw [Nat.zero_add] at this
  exact this
section
variable {m : Nat} {cells : List Int} {rs : List (List Rw)}
theorem init_wp {m' : Int} {nb : Option (List Int)} {Φ : ObWorks → Prop} (h : RsOk m rs) (hn : ∀ Ψ : List Int → Prop, Ψ cells → (m_first_numbers m' nb).run Ψ) (q : Φ (beg cells rs).tW) : (m_Works___init__ (m', rs.map fun r => r.map Rw.enc) nb).run Φ := by
  unfold m_Works___init__
  simp only [run_bind, run_rt]
  refine hn _ ?_
  refine compG_wp (fun _ => true) (fun x : List PyData => (⟨x, 0, List.replicate 8 0, [], "waits"⟩ : ObHand)) (small (by rw [List.length_map]; have := h.1; omega)) (fun _ _ Ψ q => by exact q) (fun x _ _ Ψ q => ?_) ?_
  · unfold m_Hand___init__
    rw [len8]
    simp only [run_bind, run_rt, run_guard, rep8]
    exact ⟨by decide +kernel, ⟨by decide, by decide, by decide⟩, q⟩
  · rw [List.filter_eq_self.mpr (fun _ _ => rfl)]
    rw [List.map_map]
    have e : (List.map ((fun x : List PyData => (⟨x, 0, List.replicate 8 0, [], "waits"⟩ : ObHand)) ∘ fun r => List.map Rw.enc r) rs) = rs.map fun rows => tHand rows ⟨0, List.replicate 8 0, []⟩ "waits" := by
      apply List.map_congr_left
      intro rows _
      rfl
    rw [e]
    have key : ∀ (rs : List (List Rw)), (∀ rows ∈ rs, Rows m rows.length rows) → ∀ Φ : List ObHand → Prop, Φ ((beg cells rs).hands.map HT.tH) → (mapL (rs.map fun rows => tHand rows ⟨0, List.replicate 8 0, []⟩ "waits") m_lead_on).run Φ := by
      intro rs
      induction rs with
      | nil => intro _ Φ q; exact q
      | cons rows rs ih =>
        intro h Φ q
        rw [List.map_cons]
        unfold mapL
        rw [run_bind]
        refine lead_wp (m := m) (n := rows.length) (B := 0) hs0_ok (by decide) (h rows List.mem_cons_self) ?_
        rw [run_bind]
        exact ih (fun y hy => h y (List.mem_cons_of_mem _ hy)) _ q
    exact key rs h.2 _ q
theorem numsN_wp {m' : Nat} {Ψ : List Int → Prop} (h : m' ≤ 100) (q : Ψ (List.replicate m' 0)) : (m_first_numbers (m' : Int) none).run Ψ := by
  unfold m_first_numbers
  simp only [run_guard, run_if, run_rt]
  refine ⟨nn, ?_⟩
  rw [if_pos (by rfl)]
  refine ⟨⟨by omega, by omega, small (by simp; omega)⟩, ?_⟩
  have : repL ([(0 : Int)] : List Int) (m' : Int) = List.replicate m' 0 := by unfold repL; simp
  rw [this]; exact q
theorem numsS_wp {m' : Nat} {Ψ : List Int → Prop} (hl : cells.length = m') (h : ∀ x ∈ cells, 0 ≤ x ∧ x < 1000) (q : Ψ cells) : (m_first_numbers (m' : Int) (some cells)).run Ψ := by
  unfold m_first_numbers
  simp only [run_guard, run_if, run_rt, run_bind, run_opt, Option.some.injEq, exists_eq_left', Option.isNone_some, Bool.false_eq_true, if_false]
  refine ⟨fun b _ => Nn.ne b, ?_⟩
  rw [if_neg (by rw [hl]; simp)]
  refine forL_wp (fun _ (_ : Unit) => True) trivial ?_ (fun _ _ => q)
  intro i x s hx _
  obtain ⟨h0, h1⟩ := h x (List.mem_of_getElem? hx)
  unfold m_first_numbers_L1
  rw [run_if, if_neg (by simp; omega), run_rt]
  trivial
end
end M
/-! # works: programs drawn by a reel; what is told -/
namespace M
open PySem L2 Z
section
variable {N : Nat} {r : WReel}
theorem at_in {α : Type} {xs : List α} {i : Int} (h0 : 0 ≤ i) (h : i < xs.length) (P : α → Prop) (hp : ∀ x ∈ xs, P x) : ∃ a, atI xs i = some a ∧ P a := by
  obtain ⟨a, m, e⟩ := atI_some h0 h
  exact ⟨a, e, hp a m⟩
def NbOk (m : Nat) (nb : Option (List Int)) : Prop := ∀ l, nb = some l → l.length = m ∧ ∀ x ∈ l, 0 ≤ x ∧ x < 1000
def nums (m : Nat) : Option (List Int) → List Int
  | none => List.replicate m 0
  | some l => l
end
/-! ### what is told -/
section
variable {m B : Nat} {p : PS} {k : Nat} {h : HT}
def cnts (p : PS) : List Int := (List.range p.hands.length).map fun k : Nat => cntZ p.past (k : Int)
theorem counts_wp {Φ : List Int → Prop} (h8 : p.hands.length ≤ 8) (q : Φ (cnts p)) : (m_Works_counts p.tW).run Φ := by
  have e : (p.tW.team.length : Int) = p.hands.length := by unfold PS.tW; dsimp only; rw [List.length_map]
  unfold m_Works_counts
  rw [e]
  simp only [run_bind, run_rt, run_guard]
  refine ⟨⟨by decide, by decide, by omega, by omega⟩, ?_⟩
  refine compG_wp (fun _ => true) (fun j => cntZ p.tW.past j) (small (by rw [rng_len]; omega)) (fun _ _ Ψ q => by exact q) (fun _ _ _ Ψ q => by exact q) ?_
  rw [List.filter_eq_self.mpr (fun _ _ => rfl)]
  have : (rng 0 (p.hands.length : Int)).map (fun j => cntZ p.tW.past j) = cnts p := by
    unfold rng cnts
    rw [List.map_map]
    have : ((p.hands.length : Int) - 0).toNat = p.hands.length := by omega
    rw [this]
    apply List.map_congr_left
    intro j _
    show cntZ p.past (0 + (j : Int)) = _
    rw [Int.zero_add]
  rw [this]
  exact q
theorem next_past {r : Rw} : (p.next k h r).past.length = p.past.length + 1 := by unfold PS.next; dsimp only; rw [List.length_append]; rfl
theorem next_hands {r : Rw} : (p.next k h r).hands.length = p.hands.length := by unfold PS.next; dsimp only; rw [List.length_set]
end
end M
/-! # good data: == is = -/
namespace M
open PySem L2 Z
theorem layAll_of : ∀ {xs : List PyData}, (∀ x ∈ xs, x.canLay0 = true) → PyData.canLayAll0 xs = true
  | [], _ => by simp [PyData.canLayAll0]
  | x :: xs, h => by
    simp only [PyData.canLayAll0, Bool.and_eq_true]
    exact ⟨h x List.mem_cons_self, layAll_of fun y hy => h y (List.mem_cons_of_mem _ hy)⟩
theorem depAll_of {n : Nat} : ∀ {xs : List PyData}, (∀ x ∈ xs, x.depth ≤ n) → PyData.depthAll xs ≤ n
  | [], _ => by simp [PyData.depthAll]
  | x :: xs, h => by
    simp only [PyData.depthAll]
    exact Nat.max_le.mpr ⟨h x List.mem_cons_self, depAll_of fun y hy => h y (List.mem_cons_of_mem _ hy)⟩
theorem gd_shape {n : Nat} {d : PyData} (g : Gd n d) : d.canLay0 = true ∧ d.depth ≤ n := by
  induction g with
  | int x => exact ⟨by simp [PyData.canLay0], by simp [PyData.depth]⟩
  | str x h => exact ⟨by simpa [PyData.canLay0] using h, by simp [PyData.depth]⟩
  | non => exact ⟨by simp [PyData.canLay0], by simp [PyData.depth]⟩
  | lst l h ih =>
    refine ⟨?_, ?_⟩
    · simp only [PyData.canLay0]
      exact layAll_of fun x hx => (ih x hx).1
    · simp only [PyData.depth]
      exact Nat.succ_le_succ (depAll_of fun x hx => (ih x hx).2)
  | tup l h ih =>
    refine ⟨?_, ?_⟩
    · simp only [PyData.canLay0]
      exact layAll_of fun x hx => (ih x hx).1
    · simp only [PyData.depth]
      exact Nat.succ_le_succ (depAll_of fun x hx => (ih x hx).2)
theorem eqvAll_iff : ∀ {xs ys : List PyData}, (∀ x ∈ xs, ∀ y ∈ ys, (PyData.eqv x y = true ↔ x = y)) → (PyData.eqvAll xs ys = true ↔ xs = ys)
  | [], [], _ => by simp [PyData.eqvAll]
  | [], y :: ys, _ => by simp [PyData.eqvAll]
  | x :: xs, [], _ => by simp [PyData.eqvAll]
  | x :: xs, y :: ys, h => by
    simp only [PyData.eqvAll, Bool.and_eq_true, List.cons.injEq]
    rw [h x List.mem_cons_self y List.mem_cons_self, eqvAll_iff fun a ha b hb => h a (List.mem_cons_of_mem _ ha) b (List.mem_cons_of_mem _ hb)]
theorem gd_eqv {n : Nat} {x : PyData} (g : Gd n x) : ∀ {m : Nat} {y : PyData}, Gd m y → (PyData.eqv x y = true ↔ x = y) := by
  induction g with
  | int a => intro m y gy; cases gy <;> simp [PyData.eqv]
  | str a h => intro m y gy; cases gy <;> simp [PyData.eqv]
  | non => intro m y gy; cases gy <;> simp [PyData.eqv]
  | lst l h ih =>
    intro m y gy
    cases gy with
    | lst l' h' =>
      simp only [PyData.eqv, PyData.list.injEq]
      exact eqvAll_iff fun a ha b hb => ih a ha (h' b hb)
    | int a => simp [PyData.eqv]
    | str a h => simp [PyData.eqv]
    | non => simp [PyData.eqv]
    | tup l h => simp [PyData.eqv]
  | tup l h ih =>
    intro m y gy
    cases gy with
    | tup l' h' =>
      simp only [PyData.eqv, PyData.tuple.injEq]
      exact eqvAll_iff fun a ha b hb => ih a ha (h' b hb)
    | int a => simp [PyData.eqv]
    | str a h => simp [PyData.eqv]
    | non => simp [PyData.eqv]
    | lst l h => simp [PyData.eqv]
theorem Gd.le {n m : Nat} {d : PyData} (g : Gd n d) (h : n ≤ m) : Gd m d := by
  obtain ⟨k, rfl⟩ : ∃ k, m = n + k := ⟨m - n, by omega⟩
  clear h
  induction k with
  | zero => exact g
  | succ k ih => exact ih.up
section
variable {α β : Type} [Py α] [Py β] {x y : α} {z : β} {n m : Nat}
theorem okD_gd (g : Gd n (toPy x)) (h : n ≤ 64) : okD x := by
  unfold okD SeqAt.shaped
  obtain ⟨a, b⟩ := gd_shape g
  rw [a, decide_eq_true (Nat.le_trans b h)]
  rfl
theorem eqD_gd (g : Gd n (toPy x)) (g' : Gd m (toPy z)) : eqD x z = true ↔ toPy x = toPy z := gd_eqv g g'
theorem eqD_gs (g : Gd n (toPy x)) : eqD x x = true := (eqD_gd g g).mpr rfl
theorem gd_map {xs : List α} (l : xs.length ≤ 100000) (h : ∀ x ∈ xs, Gd n (toPy x)) : Gd (n + 1) (toPy xs) := by
  refine .lst (by rw [List.length_map]; exact l) fun y hy => ?_
  obtain ⟨x, hx, rfl⟩ := List.mem_map.mp hy
  exact h x hx
end
theorem gd_i {n : Nat} {x : Int} : Gd (n + 1) (toPy x) := .int x
theorem gd_is {n : Nat} {xs : List Int} (h : xs.length ≤ 100000) : Gd (n + 2) (toPy xs) := gd_map h fun _ _ => gd_i
/-! ### rows as data -/
theorem gd_t {n : Nat} {xs : List PyData} (l : xs.length ≤ 10) (h : ∀ x ∈ xs, Gd n x) : Gd (n + 1) (.tuple xs) := .tup (by omega) h
end M
/-! # works: numbers below a thousand; twins; what two are held against each other by -/
namespace M
open PySem L2 Z
def Rg (l : List Int) : Prop := ∀ x ∈ l, 0 ≤ x ∧ x < 1000
theorem rg_getD {l : List Int} {b : Nat} (h : Rg l) : 0 ≤ l.getD b 0 ∧ l.getD b 0 < 1000 := by
  rw [List.getD_eq_getElem?_getD]
  cases e : l[b]? with
  | none => exact ⟨by decide, by decide⟩
  | some x => exact h x (List.mem_of_getElem? e)
theorem rg_set {l : List Int} {b : Nat} {x : Int} (h : Rg l) (hx : 0 ≤ x ∧ x < 1000) : Rg (l.set b x) := by
  intro y hy
  rcases List.mem_or_eq_of_mem_set hy with hy | rfl
  · exact h y hy
  · exact hx
theorem val_rg {l : List Int} {w : Wth} (h : Rg l) (ok : w.ok) : 0 ≤ w.val l ∧ w.val l < 1000 := by
  have m : ∀ x : Int, 0 ≤ x % 1000 ∧ x % 1000 < 1000 := fun x => ⟨Int.emod_nonneg _ (by decide), Int.emod_lt_of_pos _ (by decide)⟩
  cases w with
  | one p =>
    cases p with
    | num x => exact ok
    | box b => exact rg_getD h
  | plus p q => exact m _
  | minus p q => exact m _
theorem stp_rg {m n : Nat} {s : HS} {r : Rw} (h : Rg s.held) (ok : r.ok m n) : Rg (stp s r).held := by
  cases r with
  | lett b w => exact rg_set h (val_rg h ok.2)
  | «unless» lt w w' t =>
    have : ∀ c : Bool, Rg (if c = true then { s with pos := s.pos + 1 } else { s with pos := t }).held := fun c => by cases c <;> exact h
    exact this _
  | _ => exact h
theorem led_rg {m n : Nat} {rows : List Rw} : ∀ {f : Nat} {s : HS}, Rg s.held → Rows m n rows → Rg (led f rows s).1.held := by
  intro f
  induction f with
  | zero =>
    intro s h hr
    unfold led
    split
    · exact h
    · split <;> exact h
  | succ f ih =>
    intro s h hr
    unfold led
    split
    · exact h
    · rename_i r e
      split
      · exact ih (stp_rg h (hr.2 _ (List.mem_of_getElem? e))) hr
      · exact h
structure PSRg (p : PS) : Prop where
  cells : Rg p.cells
  held : ∀ h ∈ p.hands, Rg h.s.held
theorem tch_rg {m n : Nat} {cells : List Int} {s : HS} {r : Rw} (hc : Rg cells) (h : Rg s.held) (ok : r.ok m n) : Rg (tch cells s r).1 ∧ Rg (tch cells s r).2.1.held := by
  cases r with
  | load b c => exact ⟨hc, rg_set h (rg_getD hc)⟩
  | store c w => exact ⟨rg_set hc (val_rg h ok.2), h⟩
  | swap b c w => exact ⟨rg_set hc (val_rg h ok.2.2), rg_set h (rg_getD hc)⟩
  | _ => exact ⟨hc, h⟩
theorem PSRg.next {m B : Nat} {p : PS} {k : Nat} {h : HT} {r : Rw} (g : PSRg p) (o : PSOk m B p) (hk : p.hands[k]? = some h) (hr : h.rows[h.s.pos]? = some r) : PSRg (p.next k h r) := by
  have hm := List.mem_of_getElem? hk
  have oh := o.hands h hm
  have ok := oh.rows.2 r (List.mem_of_getElem? hr)
  have t := tch_rg g.cells (g.held h hm) ok
  refine ⟨t.1, fun x hx => ?_⟩
  rcases List.mem_or_eq_of_mem_set hx with hx | rfl
  · exact g.held x hx
  · exact led_rg t.2 oh.rows
theorem beg_rg {m : Nat} {cells : List Int} {rs : List (List Rw)} (hc : Rg cells) (h : RsOk m rs) : PSRg (beg cells rs) := by
  refine ⟨hc, fun x hx => ?_⟩
  obtain ⟨rows, hr, rfl⟩ := List.mem_map.mp hx
  refine led_rg (m := m) (n := rows.length) (fun y hy => ?_) (h.2 rows hr)
  rw [(List.mem_replicate.mp hy).2]
  decide
theorem nums_rg {m : Nat} {nb : Option (List Int)} (h : NbOk m nb) : Rg (nums m nb) := by
  cases nb with
  | none =>
    intro y hy
    rw [(List.mem_replicate.mp hy).2]
    decide
  | some l => exact (h l rfl).2
section
variable {m B : Nat} {p p' : PS}
/-! ### twins -/
theorem hand_like_wp {h : HT} {Φ : ObHand → Prop} (q : Φ h.tH) : (m_hand_like h.tH).run Φ := by
  unfold m_hand_like m_Hand___init__
  rw [len8]
  simp only [run_bind, run_rt, run_guard, rep8]
  exact ⟨by decide +kernel, ⟨by decide, by decide, by decide⟩, q⟩
theorem twin_wp {Φ : ObWorks → Prop} (o : PSOk m B p) (g : PSRg p) (q : Φ p.tW) : (m_Works_twin p.tW).run Φ := by
  have few := o.few
  unfold m_Works_twin
  simp only [run_bind, run_rt]
  refine init_wp (m := m) (rs := []) ⟨by simp, by simp⟩ (fun Ψ q => numsS_wp (cells := p.cells) rfl g.cells q) ?_
  refine compG_wp (fun _ => true) (fun x => x) (small (by unfold PS.tW; dsimp only; rw [List.length_map]; omega)) (fun _ _ Ψ q => by exact q) (fun x hx _ Ψ q => ?_) ?_
  · obtain ⟨h, hh, rfl⟩ := List.mem_map.mp hx
    exact hand_like_wp q
  · rw [List.filter_eq_self.mpr (fun _ _ => rfl), List.map_id']
    exact q
/-! ### == -/
/-! ### all that is told at once -/
end
end M
/-! # works: doors that refuse (class 0: no hand, class 1: over) -/
namespace M
open PySem L2 Z
theorem exm_run2 {α β : Type} {c : W (Ex α)} {f : α → W β} {g : Er → W β} {Φ : β → Prop} : (W.exm c f g).run Φ = c.run fun r => match r with | .ok a => (f a).run Φ | .er e => (g e).run Φ := by
  refine propext ⟨fun h => ?_, fun h => ?_⟩
  · unfold W.exm at h
    rw [run_bind] at h
    exact run_mono h fun r hr => by cases r <;> exact hr
  · unfold W.exm
    rw [run_bind]
    exact run_mono h fun r hr => by cases r <;> exact hr
theorem sure_ok {α : Type} {c : W (Ex α)} {a : α} {Φ : α → Prop} (h : ∀ Ψ : Ex α → Prop, Ψ (.ok a) → c.run Ψ) (q : Φ a) : (W.sure c).run Φ := by
  unfold W.sure
  rw [exm_run2]
  exact h _ q
section
variable {m B : Nat} {p : PS} {k : Nat} {h : HT} {r : Rw} {n : Int}
theorem xhand_ok {Φ : Ex ObHand → Prop} (e : p.hands[k]? = some h) (q : Φ (.ok h.tH)) : (m_hand_of_D (p.hands.map HT.tH) (k : Int)).run Φ := by
  unfold m_hand_of_D
  have := (List.getElem?_eq_some_iff.mp e).1
  rw [run_if, if_neg (by simp; omega), run_bind, run_opt]
  exact ⟨_, at_hand e, q⟩
theorem xhow_ok {Φ : Ex Str → Prop} (e : p.hands[k]? = some h) (q : Φ (.ok h.way)) : (m_Works_how p.tW (k : Int)).run Φ := by
  unfold m_Works_how
  rw [exm_run2]
  exact xhand_ok e q
theorem xturn_wp {Φ : Ex (Tld × ObWorks) → Prop} (o : PSOk m B p) (hB : B + 60 ≤ 90000) (hl : p.past.length ≤ 90000) (hk : p.hands[k]? = some h) (hw : h.way = "waits") (hr : h.rows[h.s.pos]? = some r) (ow : r.own = false) (q : Φ (.ok ((tch p.cells h.s r).2.2, (p.next k h r).tW))) : (m_Works_turn p.tW (k : Int)).run Φ := by
  have oh := o.hands h (List.mem_of_getElem? hk)
  have hp := (List.getElem?_eq_some_iff.mp hr).1
  have hkl := (List.getElem?_eq_some_iff.mp hk).1
  have rok := oh.rows.2 r (List.mem_of_getElem? hr)
  unfold m_Works_turn m_hand_of PS.tW
  simp only [run_bind, run_bind2, run_rt, exm_run2, run_if, List.length_map, run_opt, at_hand hk, Option.some.injEq, exists_eq_left']
  rw [if_neg (by simp), if_neg (by simp; omega)]
  rw [if_neg (by rw [show h.tH.way = h.way from rfl, hw]; simp)]
  refine touch_wp (rows := h.rows) (s := h.s) (way := h.way) (r := r) (m := m) oh.hs hr ow rok o.cells ?_
  refine apd_wp (by omega) ?_
  refine lead_wp (m := m) (tch_ok (m := m) oh.hs hp) hB oh.rows ?_
  rw [setI_nat (by rw [List.length_map]; exact hkl)]
  unfold PS.next PS.tW at q
  dsimp only at q
  rw [List.map_set] at q
  exact q
end
end M
/-! # replays where errors are let out (class 0: no hand, class 1: over) -/
namespace M
open PySem L2 Z
/-! ### truths alike -/
theorem isP_bl {b : Bool} : isP (toPy b) "list" = false := by show (kitB "bool" "list").getD false = false; decide +kernel
theorem isP_bt {b : Bool} : isP (toPy b) "tuple" = false := by show (kitB "bool" "tuple").getD false = false; decide +kernel
theorem isP_bb {b : Bool} : isP (toPy b) "bool" = true := by show (kitB "bool" "bool").getD false = true; decide +kernel
theorem okPb {b : Bool} : okP (toPy b) = True := eq_true (fun _ h => by cases h)
theorem noneb {b : Bool} : pyNone (toPy b) = false := rfl
theorem alikeB_wp {b : Bool} {Φ : Bool → Prop} (k : Φ true) : (m_law_alike (toPy b) (toPy b)).run Φ := by
  unfold m_law_alike m_law_alike_R
  have e : eqD (toPy b) (toPy b) = true := by cases b <;> rfl
  simp only [run_bind, run_rt, run_guard, run_if, isP_bl, isP_bt, isP_bb, okPb, noneb, e, Bool.false_eq_true, if_false, if_true, true_and, decide_true]
  exact ⟨⟨okD_pl b, okD_pl b⟩, k⟩
structure RS where
  p : PS
  due : List Int
  ties : List N4
  gone : List Int
def RS.tR (r : RS) : ObReplay := ⟨r.p.tW, r.due, r.ties, r.gone⟩
/-- the ties that hold the hand -/
def RS.here (r : RS) (k : Nat) : List N4 := (r.ties.filter fun t => decide ((t.c, t.d) = ((k : Int), r.gone.getD k 0))).filter fun t => decide (r.gone.getD t.a.toNat 0 ≤ t.b)
def RS.hold (r : RS) (k : Nat) : Option N4 := mn4 (r.here k)
def RS.over (r : RS) (k : Nat) : Bool := match r.p.hands[k]? with | some h => decide (r.gone.getD k 0 = r.due.getD k 0) || !decide (h.way = "waits") | none => true
def RS.free (r : RS) : List Int := ((rng 0 (r.due.length : Int)).filter fun k => !r.over k.toNat).filter fun k => (r.hold k.toNat).isNone
def RS.next (r : RS) (k : Nat) (h : HT) (w : Rw) : RS := ⟨r.p.next k h w, r.due, r.ties, r.gone.set k (r.gone.getD k 0 + 1)⟩
structure RSOk (m B : Nat) (r : RS) : Prop where
  p : PSOk m B r.p
  rg : PSRg r.p
  dl : r.due.length = r.p.hands.length
  gl : r.gone.length = r.p.hands.length
  tl : r.ties.length ≤ 90000
  ta : ∀ t ∈ r.ties, 0 ≤ t.a ∧ t.a < r.p.hands.length
theorem RSOk.mo {m B B' : Nat} {r : RS} (o : RSOk m B r) (e : B ≤ B') : RSOk m B' r := { o with p := o.p.mo e }
theorem RSOk.next {m B : Nat} {r : RS} {k : Nat} {h : HT} {w : Rw} (o : RSOk m B r) (e : r.p.hands[k]? = some h) (e2 : h.rows[h.s.pos]? = some w) : RSOk m (B + 60) (r.next k h w) := by
  refine ⟨o.p.next e e2, o.rg.next o.p e e2, ?_, ?_, o.tl, ?_⟩
  · show r.due.length = (r.p.next k h w).hands.length; rw [next_hands]; exact o.dl
  · show (r.gone.set k _).length = (r.p.next k h w).hands.length; rw [List.length_set, next_hands]; exact o.gl
  · intro t ht
    have := o.ta t ht
    show 0 ≤ t.a ∧ t.a < ((r.p.next k h w).hands.length : Int)
    rw [next_hands]; exact this
section
variable {m B : Nat} {r : RS} {k : Nat} {n : Int}
theorem over_wp {Φ : Ex Bool → Prop} (o : RSOk m B r) (hk : k < r.p.hands.length) (q : Φ (.ok (r.over k))) : (m_Replay_is_over r.tR (k : Int)).run Φ := by
  obtain ⟨h, eh⟩ : ∃ h, r.p.hands[k]? = some h := ⟨_, List.getElem?_eq_getElem hk⟩
  unfold RS.over at q
  rw [eh] at q
  dsimp only at q
  unfold m_Replay_is_over RS.tR
  simp only [run_bind, run_rt, run_opt, atN (l := r.gone) (b := k) (by rw [o.gl]; exact hk), atN (l := r.due) (b := k) (by rw [o.dl]; exact hk), Option.some.injEq, exists_eq_left', run_if]
  by_cases c : r.gone.getD k 0 = r.due.getD k 0
  · rw [if_pos (by rw [c]; simp)]
    rw [decide_eq_true c, Bool.true_or] at q
    exact q
  · rw [if_neg (by simpa using c), exm_run2]
    rw [decide_eq_false c, Bool.false_or] at q
    exact xhow_ok eh q
theorem holder_wp {Φ : Option N4 → Prop} (o : RSOk m B r) (hk : k < r.p.hands.length) (q : Φ (r.hold k)) : (m_Replay_holder r.tR (k : Int)).run Φ := by
  have tl := o.tl
  unfold m_Replay_holder RS.tR
  simp only [run_bind, run_rt]
  refine compG_wp (fun t : N4 => decide ((t.c, t.d) = ((k : Int), r.gone.getD k 0))) (fun t => t) (small (by show r.ties.length ≤ _; omega)) (fun t _ Ψ q => ?_) (fun _ _ _ Ψ q => by exact q) ?_
  · rw [run_bind, run_opt]
    refine ⟨_, atN (l := r.gone) (b := k) (by rw [o.gl]; exact hk), ?_⟩
    rw [run_guard, run_rt, eqD_dec]
    exact ⟨⟨okD_pl _, okD_pl _⟩, q⟩
  rw [List.map_id']
  refine compG_wp (fun t : N4 => decide (r.gone.getD t.a.toNat 0 ≤ t.b)) (fun t => t) (small (Nat.le_trans (List.length_filter_le _ _) (by show r.ties.length ≤ _; omega))) (fun t ht Ψ q => ?_) (fun _ _ _ Ψ q => by exact q) ?_
  · have ha := o.ta t (List.mem_filter.mp ht).1
    rw [run_bind, run_opt]
    refine ⟨r.gone.getD t.a.toNat 0, ?_, q⟩
    have := atN (l := r.gone) (b := t.a.toNat) (by rw [o.gl]; omega)
    rw [Int.toNat_of_nonneg ha.1] at this
    exact this
  rw [List.map_id']
  exact q
theorem free_wp {Φ : Ex (List Int) → Prop} (o : RSOk m B r) (q : Φ (.ok r.free)) : (m_Replay_free r.tR).run Φ := by
  have few := o.p.few
  have dl := o.dl
  have hlt : ∀ x ∈ rng 0 (r.due.length : Int), ∃ j : Nat, x = j ∧ j < r.p.hands.length := fun x hx => by
    have := rng_mem.mp hx
    exact ⟨x.toNat, by omega, by omega⟩
  unfold m_Replay_free
  simp only [run_bind, run_rt]
  rw [run_guard, run_bind]
  refine ⟨by unfold rngOk; simp only [RS.tR]; omega, ?_⟩
  refine compG_wp (fun x => !r.over x.toNat) (fun x => x) (small (by rw [rng_len]; show ((r.due.length : Int) - 0).toNat ≤ _; omega)) (fun x hx Ψ q => ?_) (fun _ _ _ Ψ q => by exact q) ?_
  · obtain ⟨j, rfl, hj⟩ := hlt x hx
    rw [run_bind]
    refine sure_ok (fun Ψ h => over_wp o hj h) ?_
    exact q
  rw [List.map_id']
  simp only [run_bind, run_rt]
  refine compG_wp (fun x => (r.hold x.toNat).isNone) (fun x => x) (small (Nat.le_trans (List.length_filter_le _ _) (by rw [rng_len]; show ((r.due.length : Int) - 0).toNat ≤ _; omega))) (fun x hx Ψ q => ?_) (fun _ _ _ Ψ q => by exact q) ?_
  · obtain ⟨j, rfl, hj⟩ := hlt x (List.mem_filter.mp hx).1
    rw [run_bind]
    refine holder_wp o hj ?_
    rw [run_guard, run_rt]
    exact ⟨fun b _ => by cases b; simp [toPy, Py.toPy], q⟩
  rw [List.map_id']
  exact q
theorem rcounts_wp {Φ : List Int → Prop} (q : Φ r.gone) : (m_Replay_counts r.tR).run Φ := by
  unfold m_Replay_counts
  simp only [run_bind, run_rt]
  exact q
theorem done_wp {Φ : Bool → Prop} (q : Φ (decide (r.gone = r.due))) : (m_Replay_done r.tR).run Φ := by
  unfold m_Replay_done
  simp only [run_bind, run_rt]
  rw [run_guard, run_rt, eqD_dec]
  exact ⟨⟨okD_pl _, okD_pl _⟩, q⟩
theorem rlen_wp {Φ : Int → Prop} (h0 : 0 ≤ r.due.sum - r.gone.sum) (h1 : r.due.sum - r.gone.sum ≤ 1000000) (q : Φ (r.due.sum - r.gone.sum)) : (m_Replay___len__ r.tR).run Φ := by
  unfold m_Replay___len__ RS.tR
  simp only [run_bind, run_rt]
  rw [run_guard, run_rt, Int.sub_zero, Int.toNat_of_nonneg h0]
  refine ⟨?_, q⟩
  unfold RgOk; omega
theorem xrturn_wp {h : HT} {w : Rw} {Φ : Ex (Tld × ObReplay) → Prop} (o : RSOk m B r) (hB : B + 60 ≤ 90000) (hl : r.p.past.length ≤ 90000) (hk : r.p.hands[k]? = some h) (hd : r.gone.getD k 0 ≠ r.due.getD k 0) (hh : r.hold k = none) (hw : h.way = "waits") (hr : h.rows[h.s.pos]? = some w) (ow : w.own = false) (q : Φ (.ok ((tch r.p.cells h.s w).2.2, (r.next k h w).tR))) : (m_Replay_turn r.tR (k : Int)).run Φ := by
  have dl := o.dl
  have hkl := (List.getElem?_eq_some_iff.mp hk).1
  have ov : r.over k = false := by
    unfold RS.over
    rw [hk]
    dsimp only
    rw [decide_eq_false hd, hw]
    rfl
  unfold m_Replay_turn
  simp only [run_bind, run_rt, run_if]
  rw [if_neg (by simp), if_neg (by simp [RS.tR]; omega), exm_run2]
  refine over_wp (r := r) o hkl ?_
  dsimp only
  rw [run_if, if_neg (by rw [ov]; decide), run_bind]
  refine holder_wp (r := r) o hkl ?_
  rw [run_bind, run_rt, run_guard, hh]
  refine ⟨fun b hb => (by cases hb), ?_⟩
  rw [run_if, if_neg (by decide), exm_run2]
  refine xturn_wp o.p hB hl hk hw hr ow ?_
  simp only [run_bind, run_rt, run_opt, RS.tR, atN (l := r.gone) (b := k) (by rw [o.gl]; exact hkl), Option.some.injEq, exists_eq_left']
  refine sti_wp (by omega) (by rw [o.gl]; omega) ?_
  rw [Int.toNat_natCast]
  exact q
/-! ### the record that is handed in -/
/-- a tie between touches that are there -/
def TieOk (cs : List Int) (t : N4) : Prop := t.a ≠ t.c ∧ 0 ≤ t.a ∧ t.a < cs.length ∧ 0 ≤ t.c ∧ t.c < cs.length ∧ 0 ≤ t.b ∧ t.b < cs.getD t.a.toNat 0 ∧ 0 ≤ t.d ∧ t.d < cs.getD t.c.toNat 0
theorem rs0_ok {p : PS} {cs : List Int} {ts : List N4} (o : PSOk m B p) (g : PSRg p) (hc : cs.length = p.hands.length) (tl : ts.length ≤ 90000) (h : ∀ t ∈ ts, TieOk cs t) : RSOk m B ⟨p, cs, ts, List.replicate cs.length 0⟩ :=
  ⟨o, g, hc, by simp [hc], tl, fun t ht => by have := h t ht; unfold TieOk at this; rw [hc] at this; exact ⟨this.2.1, this.2.2.1⟩⟩
end
end M
/-! # k50: replays made -/
namespace M
open PySem L2 Z
theorem sum_pt : ∀ {a b : List Int}, a.length = b.length → (∀ k : Nat, a.getD k 0 ≤ b.getD k 0) → a.sum ≤ b.sum
  | [], [], _, _ => Int.le_refl _
  | x :: a, y :: b, hl, h => by
    have h0 := h 0
    have := sum_pt (a := a) (b := b) (by simpa using hl) (fun k => by simpa using h (k + 1))
    simp only [List.getD_cons_zero] at h0
    simp only [List.sum_cons]
    omega
theorem sum_hi {c : Int} : ∀ {b : List Int}, (∀ x ∈ b, x ≤ c) → b.sum ≤ c * b.length
  | [], _ => by simp
  | y :: b, h => by
    have h0 := h y List.mem_cons_self
    have := sum_hi (b := b) (fun x hx => h x (List.mem_cons_of_mem _ hx))
    simp only [List.sum_cons, List.length_cons]
    rw [Int.natCast_succ, Int.mul_add]
    omega
theorem gd_n4 {x : N4} : Gd 6 (toPy x) := gd_t (n := 5) (xs := [.int x.a, .int x.b, .int x.c, .int x.d]) (by show 4 ≤ 10; decide) (fun y hy => by
  simp only [List.mem_cons, List.mem_nil_iff, or_false] at hy
  rcases hy with rfl | rfl | rfl | rfl <;> exact gd_i)
theorem getD_setC {l : List Int} {a c : Nat} {x : Int} : (l.set a x).getD c 0 = if c = a ∧ c < l.length then x else l.getD c 0 := by
  rw [List.getD_eq_getElem?_getD, List.getElem?_set, List.getD_eq_getElem?_getD]
  by_cases h : a = c
  · subst h
    by_cases h2 : a < l.length
    · rw [if_pos rfl, if_pos h2, if_pos ⟨rfl, h2⟩]; rfl
    · rw [if_pos rfl, if_neg h2, if_neg (fun z => h2 z.2), List.getElem?_eq_none (by omega)]
  · rw [if_neg h, if_neg (fun z => h z.1.symm)]
/-- between touches that are there -/
def thB (cs : List Int) (a b : Int) : Bool := decide (0 ≤ a) && (decide (a < cs.length) && (decide (0 ≤ b) && decide (b < cs.getD a.toNat 0)))
def badT (cs : List Int) (t : N4) : Bool := decide (t.a = t.c) || (!thB cs t.a t.b || !thB cs t.c t.d)
theorem good_tie {cs : List Int} {t : N4} (h : badT cs t = false) : TieOk cs t := by
  unfold badT thB at h
  simp only [Bool.or_eq_false_iff, Bool.not_eq_false', Bool.and_eq_true, decide_eq_true_eq, decide_eq_false_iff_not] at h
  obtain ⟨h1, ⟨h2, h3, h4, h5⟩, h6, h7, h8, h9⟩ := h
  exact ⟨h1, h2, h3, h6, h7, h4, h5, h8, h9⟩
theorem at_cs {cs : List Int} {a : Int} (h0 : 0 ≤ a) (h1 : a < cs.length) : atI cs a = some (cs.getD a.toNat 0) := by
  have := atN (l := cs) (b := a.toNat) (by omega)
  rw [Int.toNat_of_nonneg h0] at this
  exact this
theorem touch_any {cs : List Int} {a b : Int} {Φ : Bool → Prop} (q : Φ (thB cs a b)) : (m_is_touch cs a b).run Φ := by
  unfold thB at q
  unfold m_is_touch
  simp only [run_bind, run_rt, run_if]
  by_cases c : 0 ≤ a
  · by_cases d : a < cs.length
    · rw [decide_eq_true c, decide_eq_true d, Bool.true_and, Bool.true_and] at q
      rw [if_pos (by simpa using c), if_pos (by simpa using d)]
      by_cases e : 0 ≤ b
      · rw [decide_eq_true e, Bool.true_and] at q
        rw [if_pos (by simpa using e), run_opt]
        exact ⟨_, at_cs c d, q⟩
      · rw [decide_eq_false e, Bool.false_and] at q
        rw [if_neg (by simpa using e)]
        exact q
    · rw [decide_eq_true c, decide_eq_false d, Bool.true_and, Bool.false_and] at q
      rw [if_pos (by simpa using c), if_neg (by simpa using d)]
      exact q
  · rw [decide_eq_false c, Bool.false_and] at q
    rw [if_neg (by simpa using c)]
    exact q
theorem there_any {cs : List Int} {a b : Int} {Φ : Bool → Prop} (q : Φ (thB cs a b)) : (m_law_there cs a b).run Φ := touch_any (cs := cs) (a := a) (b := b) q
theorem need_any {cs : List Int} {ts : List N4} {Φ : Ex Unit → Prop} (q : Φ (if ts.any (badT cs) = true then .er ⟨2, .none⟩ else .ok ())) : (m_need_record (cs, ts)).run Φ := by
  unfold m_need_record
  simp only [run_bind, run_rt]
  refine forC_any (badT cs) (Ex.er ⟨2, .none⟩) (fun t _ Ψ h => ?_) ?_
  · unfold badT at h
    unfold m_need_record_L1
    rw [run_bind, run_if]
    by_cases c : t.a = t.c
    · rw [decide_eq_true c, Bool.true_or, if_pos rfl] at h
      rw [if_pos (by simpa using c), run_rt, run_if, if_pos rfl]
      exact h
    · rw [decide_eq_false c, Bool.false_or] at h
      rw [if_neg (by simpa using c), run_bind]
      refine touch_any ?_
      rw [run_bind, run_if]
      by_cases d : thB cs t.a t.b = true
      · rw [d, Bool.not_true, Bool.false_or] at h
        rw [d, if_neg (by decide), run_bind]
        refine touch_any ?_
        rw [run_rt, run_rt, run_if]
        cases hh : thB cs t.c t.d <;> rw [hh] at h <;> exact h
      · rw [Bool.not_eq_true] at d
        rw [d, Bool.not_false, Bool.true_or, if_pos rfl] at h
        rw [d, if_pos (by decide), run_rt, run_rt, run_if, if_pos rfl]
        exact h
  · by_cases c : ts.any (badT cs) = true
    · rw [if_pos c] at q ⊢
      exact q
    · rw [if_neg c] at q ⊢
      exact q
def dueC (cs : List Int) (ts : List N4) (n : Int) : Int := if ts.any (badT cs) = true then 1 else if (cs.length : Int) = n then 0 else 2
theorem due_wp {cs : List Int} {ts : List N4} {n : Int} {Φ : Int → Prop} (q : Φ (dueC cs ts n)) : (m_law_due cs ts n).run Φ := by
  unfold dueC at q
  unfold m_law_due
  rw [run_bind]
  refine forC_any (badT cs) (1 : Int) (fun t _ Ψ h => ?_) ?_
  · unfold badT at h
    unfold m_law_due_L1
    rw [run_bind, run_if]
    by_cases c : t.a = t.c
    · rw [decide_eq_true c, Bool.true_or, if_pos rfl] at h
      rw [if_pos (by simpa using c), run_rt, run_if, if_pos rfl]
      exact h
    · rw [decide_eq_false c, Bool.false_or] at h
      rw [if_neg (by simpa using c), run_bind]
      refine there_any ?_
      rw [run_bind, run_if]
      by_cases d : thB cs t.a t.b = true
      · rw [d, Bool.not_true, Bool.false_or] at h
        rw [d, if_neg (by decide), run_bind]
        refine there_any ?_
        rw [run_rt, run_rt, run_if]
        cases hh : thB cs t.c t.d <;> rw [hh] at h <;> exact h
      · rw [Bool.not_eq_true] at d
        rw [d, Bool.not_false, Bool.true_or, if_pos rfl] at h
        rw [d, if_pos (by decide), run_rt, run_rt, run_if, if_pos rfl]
        exact h
  · by_cases c : ts.any (badT cs) = true
    · rw [if_pos c] at q ⊢
      exact q
    · rw [if_neg c] at q ⊢
      show (W.bind _ _).run Φ
      rw [run_bind, run_opt]
      by_cases d : (cs.length : Int) = n
      · rw [if_pos d] at q
        rw [decide_eq_true d]
        exact ⟨0, rfl, q⟩
      · rw [if_neg d] at q
        rw [decide_eq_false d]
        exact ⟨2, rfl, q⟩
theorem kind_no {Φ : Int → Prop} (q : Φ 0) : (m_law_kind none).run Φ := by
  unfold m_law_kind
  rw [run_if, if_pos (show (none : Option Er).isNone = true from rfl)]
  exact q
theorem kind_er {n : Nat} {d : PyData} {Φ : Int → Prop} (hn : n = 2 ∧ Φ 1 ∨ n = 0 ∧ Φ 2) : (m_law_kind (some ⟨n, d⟩)).run Φ := by
  unfold m_law_kind
  rw [run_if, if_neg (by simp)]
  simp only [run_bind, run_opt, Option.some.injEq, exists_eq_left', run_if, run_rt, run_guard]
  rcases hn with ⟨rfl, q⟩ | ⟨rfl, q⟩
  · have e1 : subT_ValueError 2 = true := rfl
    have e2 : sub_Held 2 = false := rfl
    have e3 : sub_NoCut 2 = false := rfl
    have e4 : sub_Over 2 = false := rfl
    have e5 : sub_NoHand 2 = false := rfl
    have e6 : sub_NoNote 2 = true := rfl
    simp only [e1, e2, e3, e4, e5, e6, Bool.not_true, Bool.false_eq_true, if_false, if_true, Bool.or_false]
    exact ⟨wide_mul (a := 4) (b := 4) (by decide) (by decide) (by decide) (by decide) (by decide), 1, rfl, q⟩
  · have e1 : subT_ValueError 0 = true := rfl
    have e2 : sub_Held 0 = false := rfl
    have e3 : sub_NoCut 0 = false := rfl
    have e4 : sub_Over 0 = false := rfl
    have e5 : sub_NoHand 0 = true := rfl
    have e6 : sub_NoNote 0 = false := rfl
    simp only [e1, e2, e3, e4, e5, e6, Bool.not_true, Bool.false_eq_true, if_false, if_true, Bool.or_false]
    exact ⟨wide_mul (a := 4) (b := 4) (by decide) (by decide) (by decide) (by decide) (by decide), 2, rfl, q⟩
section
variable {p : PS} {cs : List Int} {ts : List N4} {m B : Nat}
theorem rinitX {Φ : Ex ObReplay → Prop} (o : PSOk m B p) (g : PSRg p) (hc : cs.length = p.hands.length) (c : ¬ ts.any (badT cs) = true) (q : Φ (.ok (RS.tR ⟨p, cs, ts, List.replicate cs.length 0⟩))) : (m_Replay___init__ p.tW (cs, ts)).run Φ := by
  have few := o.few
  unfold m_Replay___init__
  simp only [run_bind, run_rt]
  rw [exm_run2]
  refine need_any ?_
  rw [if_neg c]
  dsimp only
  rw [run_bind]
  refine counts_wp few ?_
  rw [run_if, if_neg (by simp [cnts, hc]), run_bind]
  refine twin_wp o g ?_
  simp only [run_bind, run_rt, run_guard]
  have er : repL ([(0 : Int)] : List Int) (cs.length : Int) = List.replicate cs.length 0 := by unfold repL; simp
  rw [er]
  exact ⟨⟨by omega, by omega, small (by simp; omega)⟩, q⟩
theorem rinit_any {Φ : Ex ObReplay → Prop} (o : PSOk m B p) (g : PSRg p) (q1 : dueC cs ts p.hands.length = 1 → Φ (.er ⟨2, .none⟩)) (q2 : dueC cs ts p.hands.length = 2 → Φ (.er ⟨0, .none⟩)) (q3 : dueC cs ts p.hands.length = 0 → (∀ t ∈ ts, TieOk cs t) → cs.length = p.hands.length → Φ (.ok (RS.tR ⟨p, cs, ts, List.replicate cs.length 0⟩))) : (m_Replay___init__ p.tW (cs, ts)).run Φ := by
  unfold dueC at q1 q2 q3
  by_cases c : ts.any (badT cs) = true
  · rw [if_pos c] at q1
    unfold m_Replay___init__
    simp only [run_bind, run_rt]
    rw [exm_run2]
    refine need_any ?_
    rw [if_pos c]
    exact q1 rfl
  · rw [if_neg c] at q2 q3
    have good : ∀ t ∈ ts, TieOk cs t := fun t ht => good_tie (by
      cases e : badT cs t with
      | false => rfl
      | true => exact absurd (List.any_eq_true.mpr ⟨t, ht, e⟩) c)
    by_cases d : (cs.length : Int) = p.hands.length
    · rw [if_pos d] at q3
      exact rinitX o g (by omega) c (q3 rfl good (by omega))
    · rw [if_neg d] at q2
      have few := o.few
      unfold m_Replay___init__
      simp only [run_bind, run_rt]
      rw [exm_run2]
      refine need_any ?_
      rw [if_neg c]
      dsimp only
      rw [run_bind]
      refine counts_wp few ?_
      rw [run_if, if_pos (by simp [cnts]; omega)]
      exact q2 rfl
theorem due_zero {n : Nat} (h : dueC cs ts n = 0) : (∀ t ∈ ts, TieOk cs t) ∧ cs.length = n ∧ ¬ ts.any (badT cs) = true := by
  unfold dueC at h
  by_cases c : ts.any (badT cs) = true
  · rw [if_pos c] at h; omega
  · rw [if_neg c] at h
    refine ⟨fun t ht => good_tie ?_, ?_⟩
    · cases e : badT cs t with
      | false => rfl
      | true => exact absurd (List.any_eq_true.mpr ⟨t, ht, e⟩) c
    · by_cases d : (cs.length : Int) = n
      · exact ⟨by omega, c⟩
      · rw [if_neg d] at h; omega
theorem made_wp {Φ : Int → Prop} (o : PSOk m B p) (g : PSRg p) (q : Φ (dueC cs ts p.hands.length)) : (m_law_made p.tW (cs, ts)).run Φ := by
  unfold m_law_made
  simp only [run_bind, run_rt]
  rw [exm_run2, exm_run2]
  refine rinit_any o g (fun h => ?_) (fun h => ?_) (fun h _ _ => ?_)
  · dsimp only
    rw [run_rt]
    dsimp only
    rw [run_guard, run_rt]
    rw [h] at q
    exact ⟨rfl, kind_er (.inl ⟨rfl, q⟩)⟩
  · dsimp only
    rw [run_rt]
    dsimp only
    rw [run_guard, run_rt]
    rw [h] at q
    exact ⟨rfl, kind_er (.inr ⟨rfl, q⟩)⟩
  · dsimp only
    rw [run_rt]
    dsimp only
    rw [run_rt]
    rw [h] at q
    exact kind_no q
theorem sum_zs : ∀ {n : Nat}, (List.replicate n (0 : Int)).sum = 0
  | 0 => rfl
  | n + 1 => by rw [List.replicate_succ, List.sum_cons, sum_zs]; rfl
theorem sum_set : ∀ {l : List Int} {k : Nat}, k < l.length → (l.set k (l.getD k 0 + 1)).sum = l.sum + 1
  | x :: l, 0, _ => by simp; omega
  | x :: l, k + 1, h => by
    have := sum_set (l := l) (k := k) (by simpa using h)
    simp only [List.set_cons_succ, List.getD_cons_succ, List.sum_cons]
    omega
/-- a run through a replay, each time with the first hand that is free -/
structure PyI (cs : List Int) (t : Nat) (r : RS) : Prop where
  ok : RSOk 1 (60 + 60 * t) r
  past : r.p.past.length ≤ t
  due : r.due = cs
  le : ∀ k : Nat, r.gone.getD k 0 ≤ cs.getD k 0
  gs : r.gone.sum = t
theorem free_mem {r : RS} {x : Int} (o : RSOk m B r) (hx : x ∈ r.free) : ∃ (k : Nat) (h : HT) (w : Rw), x = k ∧ k < r.gone.length ∧ r.p.hands[k]? = some h ∧ r.gone.getD k 0 ≠ r.due.getD k 0 ∧ r.hold k = none ∧ h.way = "waits" ∧ h.rows[h.s.pos]? = some w ∧ w.own = false := by
  have dl := o.dl
  have gl := o.gl
  unfold RS.free at hx
  have h1 := List.mem_filter.mp hx
  have h2 := List.mem_filter.mp h1.1
  have h3 := rng_mem.mp h2.1
  obtain ⟨k, rfl⟩ : ∃ k : Nat, x = k := ⟨x.toNat, by omega⟩
  obtain ⟨h, eh⟩ : ∃ h, r.p.hands[k]? = some h := ⟨_, List.getElem?_eq_getElem (by omega)⟩
  have ho := h2.2
  rw [Int.toNat_natCast] at ho
  unfold RS.over at ho
  rw [eh] at ho
  dsimp only at ho
  rw [Bool.not_eq_true', Bool.or_eq_false_iff, decide_eq_false_iff_not, Bool.not_eq_false', decide_eq_true_eq] at ho
  obtain ⟨w, hw, ow⟩ := (o.p.hands h (List.mem_of_getElem? eh)).wt ho.2
  refine ⟨k, h, w, rfl, by omega, eh, ho.1, ?_, ho.2, hw, ow⟩
  have := h1.2
  rw [Int.toNat_natCast] at this
  exact Option.isNone_iff_eq_none.mp this
abbrev PSt := ObReplay × List Int × List Int × List (List Int)
theorem played_wp {Φ : Ex (List Int × List (List Int)) → Prop} (o : PSOk 1 60 p) (g : PSRg p) (pp : p.past = []) (cp : ∀ c ∈ cs, 0 ≤ c ∧ c ≤ 100) (tl : ts.length ≤ 1000) (q1 : dueC cs ts p.hands.length = 1 → Φ (.er ⟨2, .none⟩)) (q2 : dueC cs ts p.hands.length = 2 → Φ (.er ⟨0, .none⟩)) (q3 : dueC cs ts p.hands.length = 0 → ∀ order seen, Φ (.ok (order, seen))) : (m_played p.tW (cs, ts) () []).run Φ := by
  unfold m_played
  simp only [run_bind, run_rt]
  rw [exm_run2]
  refine rinit_any o g q1 q2 fun h0 tk hc => ?_
  have few := o.few
  have o0 := rs0_ok (ts := ts) o g hc (by omega) tk
  have shi := sum_hi (c := 100) (b := cs) (fun c hc => (cp c hc).2)
  have I0 : PyI cs 0 ⟨p, cs, ts, List.replicate cs.length 0⟩ := by
    refine ⟨o0, by rw [pp]; exact Nat.le_refl _, rfl, fun k => ?_, ?_⟩
    · have e0 : (List.replicate cs.length (0 : Int)).getD k 0 = 0 := by
        rw [List.getD_eq_getElem?_getD, List.getElem?_replicate]
        split <;> rfl
      show (List.replicate cs.length (0 : Int)).getD k 0 ≤ _
      rw [e0, List.getD_eq_getElem?_getD]
      cases e : cs[k]? with
      | none => exact Int.le_refl _
      | some x => exact (cp x (List.mem_of_getElem? e)).1
    · show (List.replicate cs.length (0 : Int)).sum = _
      exact sum_zs
  dsimp only
  rw [run_bind, run_rt, run_bind, run_rt, run_bind]
  refine sure_ok (fun Ψ h => free_wp o0 h) ?_
  rw [run_bind, run_rt, run_bind]
  have bnd : ∀ {t : Nat} {r : RS}, PyI cs t r → t ≤ 800 := fun {t r} I => by
    have gl := I.ok.gl
    have dl := I.ok.dl
    rw [I.due] at dl
    have := sum_pt (show r.gone.length = cs.length by omega) I.le
    have hg := I.gs
    omega
  refine while_wp (fun s : PSt => ∃ r t, s.1 = r.tR ∧ PyI cs t r ∧ s.2.2.1 = r.free ∧ s.2.1.length = t ∧ s.2.2.2.length = t) (fun s => 1000 - s.2.1.length) ⟨_, 0, rfl, I0, rfl, rfl, rfl⟩ ?_
  rintro ⟨w, order, free, seen⟩ ⟨r, t, e1, I, e2, e3, e4⟩
  dsimp only at e1 e2 e3 e4
  subst e1 e2
  have tb := bnd I
  unfold m_played_L1
  dsimp only
  rw [run_guard, run_if, eqD_dec]
  refine ⟨⟨okD_pl _, okD_pl _⟩, ?_⟩
  cases ef : r.free with
  | nil =>
    rw [if_neg (by simp), run_rt]
    show (W.after _ _).run Φ
    exact q3 h0 _ _
  | cons x xs =>
    have hx : x ∈ r.free := by rw [ef]; exact List.mem_cons_self
    obtain ⟨k, h, w, rfl, kl, eh, ne, hh, hw, hr, ow⟩ := free_mem I.ok hx
    rw [if_pos (by simp), run_bind2]
    unfold m_law_played__lam0
    rw [run_bind2]
    unfold m_law_asked
    rw [run_bind]
    refine apd_wp (by omega) ?_
    rw [run_bind, run_opt]
    refine ⟨_, at_head, ?_⟩
    rw [run_rt]
    dsimp only
    rw [run_rt]
    dsimp only
    rw [run_bind, run_rt, run_guard, run_if, inD_dec]
    refine ⟨⟨okD_pl _, okD_pl _⟩, ?_⟩
    rw [if_neg (by simp), run_bind]
    have lt : r.gone.getD k 0 < cs.getD k 0 := by
      have := I.le k
      rw [I.due] at ne
      omega
    have on := I.ok.next (k := k) eh hr
    refine sure_ok (fun Ψ h => xrturn_wp I.ok (by omega) (by have := I.past; omega) eh ne hh hw hr ow h) ?_
    have In : PyI cs (t + 1) (r.next k h w) := by
      refine ⟨on.mo (by omega), ?_, I.due, fun j => ?_, ?_⟩
      · show (r.p.next k h w).past.length ≤ _
        rw [next_past]
        have := I.past
        omega
      · show (r.gone.set k _).getD j 0 ≤ _
        rw [getD_setC]
        split
        · rename_i c
          rw [c.1]; omega
        · exact I.le j
      · show (r.gone.set k _).sum = _
        rw [sum_set kl, I.gs]; omega
    dsimp only
    rw [run_bind]
    refine apd_wp (by omega) ?_
    rw [run_bind]
    refine sure_ok (fun Ψ h => free_wp on h) ?_
    rw [run_bind, run_rt, run_rt]
    refine ⟨⟨_, t + 1, rfl, In, rfl, by dsimp only; simp [e3], by dsimp only; simp [e4]⟩, ?_⟩
    dsimp only
    rw [List.length_append, List.length_singleton]
    omega
theorem lplayed_wp {Φ : Int × Unit → Prop} (o : PSOk 1 60 p) (g : PSRg p) (pp : p.past = []) (cp : ∀ c ∈ cs, 0 ≤ c ∧ c ≤ 100) (tl : ts.length ≤ 1000) (q : Φ (dueC cs ts p.hands.length, ())) : (m_law_played p.tW (cs, ts) ()).run Φ := by
  unfold m_law_played
  simp only [run_bind, run_rt]
  rw [exm_run2, exm_run2]
  refine played_wp o g pp cp tl (fun h => ?_) (fun h => ?_) (fun h order seen => ?_)
  · dsimp only
    rw [run_rt]
    dsimp only
    rw [run_guard, run_rt]
    refine ⟨rfl, ?_⟩
    dsimp only
    rw [run_if, if_pos (show Option.isSome (some _) = true from rfl), run_guard, run_rt, eqD_dec, run_if, if_neg (by decide), run_bind]
    rw [h] at q
    exact ⟨⟨okD_pl _, okD_pl _⟩, kind_er (.inl ⟨rfl, q⟩)⟩
  · dsimp only
    rw [run_rt]
    dsimp only
    rw [run_guard, run_rt]
    refine ⟨rfl, ?_⟩
    dsimp only
    rw [run_if, if_pos (show Option.isSome (some _) = true from rfl), run_guard, run_rt, eqD_dec, run_if, if_neg (by decide), run_bind]
    rw [h] at q
    exact ⟨⟨okD_pl _, okD_pl _⟩, kind_er (.inr ⟨rfl, q⟩)⟩
  · dsimp only
    rw [run_rt]
    dsimp only
    rw [run_rt]
    dsimp only
    rw [run_if, if_neg (by decide), run_rt, run_if, if_neg (by decide), run_bind]
    rw [h] at q
    exact kind_no q
theorem zero_iff : ∀ {l : List Int}, (∀ c ∈ l, 0 ≤ c) → (List.replicate l.length (0 : Int) = l ↔ l.sum = 0)
  | [], _ => by simp
  | x :: l, h => by
    have h0 := h x List.mem_cons_self
    have ih := zero_iff (l := l) fun c hc => h c (List.mem_cons_of_mem _ hc)
    have sp : ∀ {l : List Int}, (∀ c ∈ l, 0 ≤ c) → 0 ≤ l.sum := by
      intro l
      induction l with
      | nil => intro _; exact Int.le_refl _
      | cons y l ih =>
        intro h
        have := ih fun c hc => h c (List.mem_cons_of_mem _ hc)
        have := h y List.mem_cons_self
        rw [List.sum_cons]; omega
    have := sp (l := l) fun c hc => h c (List.mem_cons_of_mem _ hc)
    rw [List.length_cons, List.replicate_succ, List.cons.injEq, List.sum_cons, ih]
    omega
theorem sum_nn : ∀ {l : List Int}, (∀ c ∈ l, 0 ≤ c) → 0 ≤ l.sum
  | [], _ => Int.le_refl _
  | x :: l, h => by
    have := h x List.mem_cons_self
    have := sum_nn (l := l) fun c hc => h c (List.mem_cons_of_mem _ hc)
    rw [List.sum_cons]; omega
theorem right_wp {Φ : Bool × Unit → Prop} (o : PSOk 1 60 p) (g : PSRg p) (pp : p.past = []) (cp : ∀ c ∈ cs, 0 ≤ c ∧ c ≤ 100) (cl : cs.length ≤ 8) (tl : ts.length ≤ 1000) (q : Φ (true, ())) : (m_law_right p.tW cs ts (p.hands.length : Int) ()).run Φ := by
  have few := o.few
  have ecn : cnts p = List.replicate p.hands.length 0 := by
    unfold cnts
    rw [pp]
    refine List.ext_getElem (by simp) fun i _ _ => by simp [cntZ]
  have er : repL ([(0 : Int)] : List Int) (p.hands.length : Int) = List.replicate p.hands.length 0 := by unfold repL; simp
  have rok : repG ([(0 : Int)] : List Int) (p.hands.length : Int) := ⟨by omega, by omega, small (by simp; omega)⟩
  have gh : Gd 10 (toPy (cs, ts)) := by
    refine gd_t (n := 9) (xs := [toPy cs, toPy ts]) (by show 2 ≤ 10; decide) fun y hy => ?_
    rcases List.mem_cons.mp hy with rfl | hy
    · exact gd_is (by omega)
    · rw [List.mem_singleton.mp hy]
      exact (gd_map (n := 6) (by omega) fun x _ => gd_n4).le (by omega)
  have fin : ∀ Ψ : Bool × Unit → Prop, Ψ (true, ()) → (W.guard (okD (cs, ts) ∧ okD (cs, ts)) (W.bind (W.ite (eqD (cs, ts) (cs, ts)) (W.bind (m_Works_counts p.tW) fun t73 => W.guard (repG ([(0 : Int)] : (List Int)) (p.hands.length : Int)) (W.guard (okD t73 ∧ okD (repL ([(0 : Int)] : (List Int)) (p.hands.length : Int))) (W.ret (eqD t73 (repL ([(0 : Int)] : (List Int)) (p.hands.length : Int)))))) (W.ret false)) (fun t87 => W.ret (t87, ())))).run Ψ := by
    intro Ψ h
    rw [run_guard, run_bind, run_if, eqD_gs gh, if_pos rfl, run_bind]
    refine ⟨⟨okD_gd gh (by decide), okD_gd gh (by decide)⟩, ?_⟩
    refine counts_wp few ?_
    rw [run_guard, run_guard, run_rt, er, ecn, eqD_dec, decide_eq_true rfl]
    exact ⟨rok, ⟨okD_pl _, okD_pl _⟩, h⟩
  unfold m_law_right
  simp only [run_bind, run_rt]
  refine due_wp ?_
  refine made_wp o g ?_
  rw [run_if, if_neg (by simp), run_bind2]
  refine lplayed_wp o g pp cp tl ?_
  dsimp only
  rw [run_rt, decide_eq_true rfl]
  dsimp only
  rw [run_if, if_neg (by decide), run_if]
  by_cases c : dueC cs ts p.hands.length = 0
  · rw [if_pos (by simpa using c), run_bind]
    have tk := due_zero c
    refine sure_ok (fun Ψ h => rinitX o g tk.2.1 tk.2.2 h) ?_
    rw [run_bind, run_rt, run_bind]
    refine rcounts_wp ?_
    dsimp only
    rw [run_guard, run_bind, er, tk.2.1]
    refine ⟨rok, ?_⟩
    have cp0 : ∀ c ∈ cs, (0 : Int) ≤ c := fun c hc => (cp c hc).1
    have s0 := sum_nn cp0
    have shi := sum_hi (c := 100) (b := cs) (fun c hc => (cp c hc).2)
    have ez : (List.replicate p.hands.length (0 : Int)).sum = 0 := sum_zs
    refine alike_wp (gd_is (n := 4) (by simp; omega)) ?_
    rw [run_bind, run_if, if_neg (by decide), run_bind]
    refine rlen_wp (by dsimp only; rw [ez]; omega) (by dsimp only; rw [ez]; omega) ?_
    dsimp only
    rw [ez, Int.sub_zero, run_guard, run_rt, run_if, if_neg (by simp), run_bind]
    refine ⟨⟨by omega, by omega⟩, ?_⟩
    refine done_wp ?_
    dsimp only
    have ed : decide (List.replicate p.hands.length (0 : Int) = cs) = decide (cs.sum = 0) := by
      rw [Bool.eq_iff_iff, decide_eq_true_eq, decide_eq_true_eq, ← zero_iff cp0, tk.2.1]
    rw [run_bind, ed]
    refine alikeB_wp ?_
    rw [run_if, if_neg (by decide)]
    have f := fin _ q
    rw [er] at f
    exact f
  · rw [if_neg (by simpa using c)]
    exact fin _ q
end
end M
/-! # k50: what is drawn, the law -/
namespace M
open PySem L2 Z
section
variable {N : Nat} {r : WReel} {cs : List Int}
theorem note_wp {Φ : Option N4 × WReel → Prop} (hr : RlOk N r) (hN : N < 2 ^ 40) (h8 : cs.length ≤ 8) (hc : ∀ c ∈ cs, 0 ≤ c ∧ c ≤ 100) (q : ∀ t r', (∀ x, t = some x → TieOk cs x) → RlOk (N + 4) r' → Φ (t, r')) : (m_law_note r cs).run Φ := by
  unfold m_law_note
  rw [run_guard, run_bind]
  refine ⟨by unfold rngOk; omega, ?_⟩
  refine compG_wp (fun x => decide (cs.getD x.toNat 0 > 0)) (fun x => x) (small (by rw [rng_len]; omega)) (fun x hx Ψ q => ?_) (fun _ _ _ Ψ q => by exact q) ?_
  · have := rng_mem.mp hx
    obtain ⟨j, rfl⟩ : ∃ j : Nat, x = j := ⟨x.toNat, by omega⟩
    have e1 : atI cs (j : Int) = some (cs.getD j 0) := atN (by omega)
    rw [Int.toNat_natCast] at q
    simp only [run_bind, run_opt, e1, Option.some.injEq, exists_eq_left', run_rt]
    exact q
  rw [List.map_id', run_bind, run_rt, run_if]
  have nd : ((rng 0 (cs.length : Int)).filter fun x => decide (cs.getD x.toNat 0 > 0)).Nodup := by
    refine List.Pairwise.filter _ ?_
    unfold rng
    exact List.Pairwise.map _ (fun a b h z => h (by simp at z; omega)) List.nodup_range
  have able : ∀ x ∈ (rng 0 (cs.length : Int)).filter (fun x => decide (cs.getD x.toNat 0 > 0)), 0 ≤ x ∧ x < cs.length ∧ 0 < cs.getD x.toNat 0 ∧ cs.getD x.toNat 0 ≤ 100 ∧ atI cs x = some (cs.getD x.toNat 0) := fun x hx => by
    have h := List.mem_filter.mp hx
    have hm := rng_mem.mp h.1
    have hp := of_decide_eq_true h.2
    refine ⟨hm.1, hm.2, hp, ?_, ?_⟩
    · have lt : x.toNat < cs.length := by omega
      rw [List.getD_eq_getElem?_getD, List.getElem?_eq_getElem lt]
      exact (hc _ (List.getElem_mem lt)).2
    · have := atN (l := cs) (b := x.toNat) (by omega)
      rw [Int.toNat_of_nonneg hm.1] at this
      exact this
  have al : ((rng 0 (cs.length : Int)).filter fun x => decide (cs.getD x.toNat 0 > 0)).length ≤ 8 := Nat.le_trans (List.length_filter_le _ _) (by rw [rng_len]; omega)
  generalize (rng 0 (cs.length : Int)).filter (fun x => decide (cs.getD x.toNat 0 > 0)) = ab at nd able al
  by_cases c : (ab.length : Int) < 2
  · rw [if_pos (by simpa using c), run_rt]
    exact q none r (fun x h => by cases h) (hr.mo (by omega))
  rw [if_neg (by simpa using c), run_bind2]
  refine draw_wp hr (by omega) (by omega) (by omega) fun d r1 d0 d1 h1 => ?_
  dsimp only
  obtain ⟨d, rfl⟩ : ∃ j : Nat, d = j := ⟨d.toNat, by omega⟩
  have hd : d < ab.length := by omega
  rw [run_bind]
  refine popI_wp hd (by omega) ?_
  dsimp only
  have el : (ab.eraseIdx d).length = ab.length - 1 := List.length_eraseIdx_of_lt hd
  rw [run_bind, run_rt, run_bind2]
  refine draw_wp h1 (by omega) (by omega) (by omega) fun f r2 f0 f1 h2 => ?_
  dsimp only
  obtain ⟨f, rfl⟩ : ∃ j : Nat, f = j := ⟨f.toNat, by omega⟩
  have hf : f < (ab.eraseIdx d).length := by omega
  obtain ⟨y, ey⟩ : ∃ y, (ab.eraseIdx d)[f]? = some y := ⟨_, List.getElem?_eq_getElem hf⟩
  have ym : y ∈ ab.eraseIdx d := List.mem_of_getElem? ey
  obtain ⟨x0, x1, x2, x3, x4⟩ := able ab[d] (List.getElem_mem hd)
  obtain ⟨y0, y1, y2, y3, y4⟩ := able y (List.mem_of_mem_eraseIdx ym)
  have ne : ab[d] ≠ y := by
    intro z
    rw [List.mem_eraseIdx_iff_getElem] at ym
    obtain ⟨j, hj, nj, ej⟩ := ym
    rw [← z] at ej
    exact nj ((List.getElem_inj (h₀ := hj) (h₁ := hd) nd).mp ej)
  rw [run_bind, run_opt]
  refine ⟨y, atI_nat ey, ?_⟩
  rw [run_bind, run_rt, run_bind, run_opt]
  refine ⟨_, x4, ?_⟩
  rw [run_bind2]
  refine draw_wp h2 (by omega) x2 (by omega) fun b r3 b0 b1 h3 => ?_
  dsimp only
  rw [run_bind, run_opt]
  refine ⟨_, y4, ?_⟩
  rw [run_bind2]
  refine draw_wp h3 (by omega) y2 (by omega) fun e r4 e0 e1 h4 => ?_
  dsimp only
  rw [run_rt]
  refine q _ r4 (fun t ht => ?_) (h4.mo (by omega))
  cases ht
  exact ⟨ne, x0, x1, y0, y1, b0, b1, e0, e1⟩
theorem other_wp {t : N4} {pl : Int} {Φ : N4 × WReel → Prop} (hr : RlOk N r) (hN : N < 2 ^ 40) (ht : TieOk cs t) (p0 : 0 ≤ pl) (p4 : pl < 4) (q : ∀ u r', RlOk (N + 3) r' → Φ (u, r')) : (m_law_other r t cs pl).run Φ := by
  obtain ⟨ne, a0, a1, c0, c1, _⟩ := ht
  unfold m_law_other
  rw [run_guard, run_bind2]
  refine ⟨cpw, ?_⟩
  refine draw_wp hr (by omega) (by decide) (by decide) fun z r1 z0 z1 h1 => ?_
  dsimp only at z0 z1 ⊢
  obtain ⟨far, ef, of⟩ := at_in (xs := [(1 : Int), 3, (10 : Int) ^ ((30 : Int)).toNat - 10]) z0 (by simpa using z1) (fun x => 0 < x ∧ x < 2 ^ 100) (by decide +kernel)
  rw [run_bind, run_opt]
  refine ⟨far, ef, ?_⟩
  rw [run_bind2]
  refine drawB_wp h1 (by omega) of.1 of.2 fun y r2 h2 => ?_
  dsimp only
  rw [run_bind, run_rt, run_bind2]
  refine draw_wp h2 (by omega) (by decide) (by decide) fun low r3 l0 l1 h3 => ?_
  dsimp only
  rw [run_bind, run_rt, run_bind, run_rt, run_bind]
  have four : ∀ x : Int, ∃ a b c d : Int, ([t.a, t.b, t.c, t.d] : List Int).set pl.toNat x = [a, b, c, d] := fun x => by
    rcases (show pl = 0 ∨ pl = 1 ∨ pl = 2 ∨ pl = 3 by omega) with rfl | rfl | rfl | rfl <;> exact ⟨_, _, _, _, rfl⟩
  have last : ∀ x : Int, ∀ Ψ : N4 × WReel → Prop, (∀ u, Ψ (u, r3)) → ((W.bind (W.opt (atI (([t.a, t.b, t.c, t.d] : List Int).set pl.toNat x) (0 : Int))) fun t32 => W.bind (W.opt (atI (([t.a, t.b, t.c, t.d] : List Int).set pl.toNat x) (1 : Int))) fun t34 => W.bind (W.opt (atI (([t.a, t.b, t.c, t.d] : List Int).set pl.toNat x) (2 : Int))) fun t36 => W.bind (W.opt (atI (([t.a, t.b, t.c, t.d] : List Int).set pl.toNat x) (3 : Int))) fun t38 => W.ret ((⟨t32, t34, t36, t38⟩ : (P4 Int Int Int Int)), r3)).run Ψ) := fun x Ψ h => by
    obtain ⟨a, b, c, d, e⟩ := four x
    rw [e]
    simp only [run_bind, run_opt, run_rt]
    exact ⟨a, rfl, b, rfl, c, rfl, d, rfl, h _⟩
  have fin : ∀ u, Φ (u, r3) := fun u => q u r3 (h3.mo (by omega))
  rw [run_if]
  by_cases c : low = 0
  · rw [if_pos (by simpa using c), run_bind]
    refine sti_wp p0 (by show pl < 4; exact p4) ?_
    rw [run_rt]
    exact last _ _ fin
  rw [if_neg (by simpa using c), run_bind, run_if]
  by_cases d : low = 1
  · rw [if_pos (by simpa using d), run_bind, run_opt]
    obtain ⟨v, ev⟩ : ∃ v, atI ([t.a, t.b, t.c, t.d] : List Int) ((pl + 2) % 4) = some v := by
      rcases (show pl = 0 ∨ pl = 1 ∨ pl = 2 ∨ pl = 3 by omega) with rfl | rfl | rfl | rfl <;> exact ⟨_, rfl⟩
    refine ⟨v, ev, ?_⟩
    rw [run_bind]
    refine sti_wp p0 (by show pl < 4; exact p4) ?_
    rw [run_rt, run_rt]
    exact last _ _ fin
  rw [if_neg (by simpa using d), run_bind, run_if]
  by_cases e : pl % 2 = 0
  · rw [if_pos (by simpa using e), run_bind]
    refine sti_wp p0 (by show pl < 4; exact p4) ?_
    rw [run_rt, run_rt, run_rt]
    exact last _ _ fin
  · rw [if_neg (by simpa using e), run_bind, run_opt]
    obtain ⟨v, ev, v0, v1⟩ : ∃ v, atI ([t.a, t.b, t.c, t.d] : List Int) (pl - 1) = some v ∧ 0 ≤ v ∧ v < cs.length := by
      rcases (show pl = 1 ∨ pl = 3 by omega) with rfl | rfl
      · exact ⟨t.a, rfl, a0, a1⟩
      · exact ⟨t.c, rfl, c0, c1⟩
    refine ⟨v, ev, ?_⟩
    rw [run_bind, run_opt]
    refine ⟨_, at_cs v0 v1, ?_⟩
    rw [run_bind]
    refine sti_wp p0 (by show pl < 4; exact p4) ?_
    rw [run_rt, run_rt, run_rt]
    exact last _ _ fin
theorem getAll_map {l : List N4} : getAll (l.map some) = some l := by
  induction l with
  | nil => rfl
  | cons x l ih =>
    rw [List.map_cons]
    unfold getAll
    rw [ih]
theorem all_some {l : List (Option N4)} (h : none ∉ l) : ∃ xs : List N4, l = xs.map some := by
  induction l with
  | nil => exact ⟨[], rfl⟩
  | cons x l ih =>
    obtain ⟨xs, e⟩ := ih fun z => h (List.mem_cons_of_mem _ z)
    cases x with
    | none => exact absurd List.mem_cons_self h
    | some x => exact ⟨x :: xs, by rw [e]; rfl⟩
theorem inD_none {l : List (Option N4)} : inD () l = decide (none ∈ l) := by
  have e : inD () l = inD (none : Option N4) l := rfl
  rw [e, Bool.eq_iff_iff, inD_iff, decide_eq_true_eq]
theorem notes_wp {Φ : List N4 × WReel → Prop} (hr : RlOk N r) (hN : N < 2 ^ 39) (h8 : cs.length ≤ 8) (hc : ∀ c ∈ cs, 0 ≤ c ∧ c ≤ 100) (q : ∀ ts r', ts.length ≤ 100 → RlOk (N + 100) r' → Φ (ts, r')) : (m_law_notes r cs).run Φ := by
  unfold m_law_notes
  rw [run_bind2]
  refine draw_wp hr (by omega) (by decide) (by decide) fun spoil r1 s0 s1 h1 => ?_
  dsimp only
  rw [run_bind, run_rt, run_bind2]
  refine draw_wp h1 (by omega) (by decide) (by decide) fun many r2 m0 m1 h2 => ?_
  dsimp only
  rw [run_bind, run_rt, run_bind2]
  refine draw_wp h2 (by omega) (by decide) (by decide) fun at_ r3 a0 a1 h3 => ?_
  dsimp only
  rw [run_bind, run_rt, run_bind2]
  refine draw_wp h3 (by omega) (by decide) (by decide) fun pl r4 p0 p1 h4 => ?_
  dsimp only
  rw [run_bind, run_rt, run_guard, run_bind]
  refine ⟨by unfold rngOk; omega, ?_⟩
  refine compSG_wp (fun j s acc => RlOk (N + 4 + 4 * j) s ∧ acc.length = j ∧ ∀ t, some t ∈ acc → TieOk cs t) (small (by rw [rng_len]; omega)) ⟨h4.mo (by omega), rfl, fun t h => nomatch h⟩ ?_ ?_
  · rintro j x ra acc hx ⟨ha, hl, ho⟩
    have hj := (List.getElem?_eq_some_iff.mp hx).1
    rw [rng_len] at hj
    rw [run_bind2]
    refine note_wp ha (by omega) h8 hc fun t rb tk hb => ?_
    dsimp only
    rw [run_rt]
    refine ⟨hb.mo (by omega), by simp [hl], fun u hu => ?_⟩
    rcases List.mem_append.mp hu with h | h
    · exact ho u h
    · exact tk u (List.mem_singleton.mp h).symm
  · rintro ra acc ⟨ha, hl, ho⟩
    rw [rng_len] at ha hl
    dsimp only
    rw [run_bind, run_rt, run_guard, run_bind, run_if, inD_none]
    refine ⟨⟨rfl, okD_pl _⟩, ?_⟩
    by_cases c : none ∈ acc
    · rw [if_pos (by simpa using c), run_rt, run_if, if_pos rfl, run_rt]
      exact q [] ra (by decide) (ha.mo (by omega))
    rw [if_neg (by simpa using c), run_guard, run_rt, eqD_dec, run_if]
    refine ⟨⟨okD_pl _, okD_pl _⟩, ?_⟩
    by_cases d : acc = []
    · rw [if_pos (by simpa using d), run_rt]
      exact q [] ra (by decide) (ha.mo (by omega))
    rw [if_neg (by simpa using d), run_bind2]
    obtain ⟨xs, rfl⟩ := all_some c
    rw [List.length_map] at hl
    have xok : ∀ t ∈ xs, TieOk cs t := fun t ht => ho t (List.mem_map.mpr ⟨t, ht, rfl⟩)
    refine draw_wp ha (by omega) (by decide) (by decide) fun z r5 z0 z1 h5 => ?_
    dsimp only
    have rest : ∀ ys : List N4, (∀ t ∈ ys, TieOk cs t) → ys ≠ [] → ys.length ≤ 90 → (m_law_notes_R1 r5 cs spoil at_ pl (ys.map some)).run Φ := by
      intro ys yok yne yl
      have yp : 0 < ys.length := List.length_pos_iff.mpr yne
      unfold m_law_notes_R1
      rw [run_bind, run_if]
      by_cases s : spoil = 1
      · rw [if_pos (by simpa using s), run_guard, List.length_map, run_bind, run_rt, run_bind, run_opt]
        refine ⟨by omega, ?_⟩
        have i0 := Int.emod_nonneg at_ (show (ys.length : Int) ≠ 0 by omega)
        have i1 := Int.emod_lt_of_pos at_ (show (0 : Int) < ys.length by omega)
        generalize at_ % (ys.length : Int) = i at i0 i1
        obtain ⟨i, rfl⟩ : ∃ j : Nat, i = j := ⟨i.toNat, by omega⟩
        have il : i < ys.length := by omega
        refine ⟨some ys[i], atI_nat (by rw [List.getElem?_map, List.getElem?_eq_getElem il]; rfl), ?_⟩
        rw [run_bind, run_opt]
        refine ⟨_, rfl, ?_⟩
        rw [run_bind2]
        refine other_wp h5 (by omega) (yok _ (List.getElem_mem il)) p0 p1 fun u r6 h6 => ?_
        dsimp only
        rw [run_bind]
        refine sti_wp (by omega) (by rw [List.length_map]; omega) ?_
        rw [run_rt]
        dsimp only
        rw [← List.map_set, getAll_map, run_bind, run_opt]
        exact ⟨_, rfl, q _ _ (by rw [List.length_set]; omega) (h6.mo (by omega))⟩
      · rw [if_neg (by simpa using s), run_rt]
        dsimp only
        rw [getAll_map, run_bind, run_opt]
        exact ⟨_, rfl, q _ _ (by omega) (h5.mo (by omega))⟩
    have xne : xs ≠ [] := fun z => d (by rw [z]; rfl)
    rw [run_bind, run_if]
    by_cases s : z = 0
    · rw [if_pos (by simpa using s), run_bind, run_opt]
      obtain ⟨x, xs, rfl⟩ : ∃ x ys, xs = x :: ys := by
        cases xs with
        | nil => exact absurd rfl xne
        | cons x ys => exact ⟨x, ys, rfl⟩
      refine ⟨some x, at_head, ?_⟩
      rw [run_bind]
      refine apd_wp (by rw [List.length_map]; omega) ?_
      rw [run_rt]
      have e : (x :: xs).map some ++ [some x] = ((x :: xs) ++ [x]).map some := by rw [List.map_append]; rfl
      rw [e]
      refine rest _ (fun t ht => ?_) (by simp) (by rw [List.length_append, List.length_singleton]; omega)
      rcases List.mem_append.mp ht with h | h
      · exact xok t h
      · rw [List.mem_singleton.mp h]; exact xok x List.mem_cons_self
    · rw [if_neg (by simpa using s), run_rt]
      exact rest xs xok xne (by omega)
end
def rwsB (n : Nat) (b : Bool) : List Rw := List.replicate n (Rw.load 1 0) ++ (if b then [Rw.go n] else [])
theorem rwsB_len {n : Nat} {b : Bool} : (rwsB n b).length = n + (if b then 1 else 0) := by
  unfold rwsB
  rw [List.length_append, List.length_replicate]
  cases b <;> rfl
theorem rwsB_ok {n : Nat} {b : Bool} : Rows 1 (rwsB n b).length (rwsB n b) := by
  refine ⟨rfl, fun r hr => ?_⟩
  unfold rwsB at hr
  rcases List.mem_append.mp hr with z | z
  · rw [(List.mem_replicate.mp z).2]
    exact ⟨by decide, by decide⟩
  · split at z
    · rw [List.mem_singleton.mp z]
      show n ≤ (rwsB n b).length
      rw [rwsB_len]; omega
    · cases z
theorem seg_b {l : Int} {b : Bool} (h0 : 0 ≤ l) : repL ([(toPy (⟨("load" : Str), ("b" : Str), (0 : Int)⟩ : (P3 Str Str Int)))] : (List PyData)) l ++ repL ([(toPy (("go" : Str), l))] : (List PyData)) (if b then (1 : Int) else 0) = (rwsB l.toNat b).map Rw.enc := by
  have eb : ltr 1 = "b" := by decide +kernel
  have e1 : toPy (⟨("load" : Str), ("b" : Str), (0 : Int)⟩ : (P3 Str Str Int)) = (Rw.load 1 0).enc := by
    show PyData.tuple [.str "load", .str "b", .int 0] = PyData.tuple [.str "load", .str (ltr 1), .int ((0 : Nat) : Int)]
    rw [eb]; rfl
  have e2 : toPy (("go" : Str), l) = (Rw.go l.toNat).enc := by
    show PyData.tuple [.str "go", .int l] = PyData.tuple [.str "go", .int (l.toNat : Int)]
    rw [Int.toNat_of_nonneg h0]
  rw [e1, e2]
  unfold rwsB repL
  rw [List.map_append]
  congr 1
  · simp [List.map_replicate]
  · cases b <;> simp
theorem rowsB_wp {l z : Int} {Φ : List PyData → Prop} (h0 : 0 ≤ l) (h1 : l ≤ 100) (q : ∀ b, Φ ((rwsB l.toNat b).map Rw.enc)) : (m_law_rows l z).run Φ := by
  unfold m_law_rows
  rw [run_guard, run_guard, run_guard, run_rt, ← List.length_append, seg_b h0]
  refine ⟨⟨by omega, by omega, small (by simp; omega)⟩, by cases decide (z = 0) <;> exact ⟨by decide, by decide, small (by rw [List.length_singleton]; decide)⟩, small ?_, q _⟩
  rw [List.length_map, rwsB_len]
  split <;> omega
theorem law_true {ns : List Int} (hn : ns.length ≤ 63) : (m_law ns ()).run (fun r => r.1 = true) := by
  unfold m_law
  rw [run_bind]
  refine reel_wp fun r hr => ?_
  obtain ⟨z, ez, z0, z1⟩ : ∃ z : Int, (if (30 : Int) < (ns.length : Int) then (30 : Int) else (ns.length : Int)) = z ∧ 0 ≤ z ∧ z ≤ 30 := ⟨_, rfl, by split <;> omega, by split <;> omega⟩
  rw [run_bind, run_rt, ez, run_guard, run_bind]
  refine ⟨by unfold rngOk; omega, ?_⟩
  refine forC_wp (fun i (s : WReel × Unit) => RlOk (1000 * i) s.1) (hr.mo (by omega)) ?_ ?_
  · rintro i x ⟨ra, ⟨⟩⟩ hx ha
    dsimp only at ha
    have hi := (List.getElem?_eq_some_iff.mp hx).1
    rw [rng_len] at hi
    unfold m_law_L1
    rw [run_bind2]
    refine draw_wp ha (by omega) (by decide) (by decide) fun h r1 h0 h1 k1 => ?_
    dsimp only
    rw [run_bind, run_rt, run_bind, run_rt, run_bind2]
    refine draw_wp k1 (by omega) (by decide) (by decide) fun a r2 a0 a1 k2 => ?_
    dsimp only
    have rest : ∀ (many : Int) (r3 : WReel) (Ψ : Ctl (Bool × Unit) (WReel × Unit) → Prop), 0 ≤ many → many ≤ 8 → RlOk (1000 * i + 3) r3 → (∀ r', RlOk (1000 * (i + 1)) r' → Ψ (.nx (r', ()))) → (m_law_R1 (1 + h) () r3 many).run Ψ := by
      intro many r3 Ψ y0 y1 k3 qn
      unfold m_law_R1
      rw [run_guard, run_bind]
      refine ⟨by unfold rngOk; omega, ?_⟩
      refine compSG_wp (fun j s acc => RlOk (1000 * i + 3 + 2 * j) s ∧ ∃ rs : List (List Rw), rs.length = j ∧ acc = (rs.map fun x => x.map Rw.enc) ∧ ∀ rows ∈ rs, Rows 1 rows.length rows) (small (by rw [rng_len]; omega)) ⟨k3, [], rfl, rfl, fun _ h => nomatch h⟩ ?_ ?_
      · rintro j x rc acc hx ⟨kc, rs, lr, rfl, orr⟩
        have hj := (List.getElem?_eq_some_iff.mp hx).1
        rw [rng_len] at hj
        rw [run_bind2]
        refine draw_wp kc (by omega) (by decide) (by decide) fun l rd l0 l1 kd => ?_
        dsimp only
        rw [run_bind2]
        refine draw_wp kd (by omega) (by decide) (by decide) fun g re g0 g1 ke => ?_
        dsimp only
        rw [run_bind]
        refine rowsB_wp l0 (by omega) fun b => ?_
        rw [run_rt]
        refine ⟨ke.mo (by omega), rs ++ [rwsB l.toNat b], by simp [lr], by rw [List.map_append]; rfl, fun rows hh => ?_⟩
        rcases List.mem_append.mp hh with z | z
        · exact orr rows z
        · rw [List.mem_singleton.mp z]; exact rwsB_ok
      · rintro rc acc ⟨kc, rs, lr, rfl, orr⟩
        rw [rng_len] at kc lr
        have ors : RsOk 1 rs := ⟨by omega, orr⟩
        have ob : PSOk 1 60 (beg [0] rs) := beg_ok rfl ors
        have og : PSRg (beg [0] rs) := beg_rg (nums_rg (m := 1) (nb := none) (fun l h => by cases h)) ors
        have hl : (beg [0] rs).hands.length = rs.length := by unfold beg; simp
        dsimp only
        rw [run_bind]
        refine init_wp (cells := [0]) ors (fun Ψ q => numsN_wp (m' := 1) (by decide) q) ?_
        rw [run_bind, run_rt, run_guard, run_bind]
        refine ⟨by unfold rngOk; omega, ?_⟩
        refine compSG_wp (fun j s acc => RlOk (1000 * i + 30 + j) s ∧ acc.length = j ∧ ∀ x ∈ acc, (0 : Int) ≤ x ∧ x ≤ 100) (small (by rw [rng_len]; omega)) ⟨kc.mo (by omega), rfl, fun _ h => nomatch h⟩ ?_ ?_
        · rintro j x rd acc hx ⟨kd, lb, ob⟩
          have hj := (List.getElem?_eq_some_iff.mp hx).1
          rw [rng_len] at hj
          rw [run_bind2]
          refine draw_wp kd (by omega) (by decide) (by decide) fun z re z0 z1 ke => ?_
          dsimp only at z0 z1 ⊢
          rw [run_rt]
          refine ⟨ke.mo (by omega), by simp [lb], fun u hu => ?_⟩
          rcases List.mem_append.mp hu with h | h
          · exact ob u h
          · rw [List.mem_singleton.mp h]; exact ⟨z0, by omega⟩
        · rintro rd cs ⟨kd, lc, oc⟩
          rw [rng_len] at kd lc
          dsimp only
          rw [run_bind, run_rt, run_bind2]
          refine notes_wp kd (by omega) (by omega) oc fun ts re tl ke => ?_
          dsimp only
          rw [run_bind2, show (1 : Int) + h = ((beg [0] rs).hands.length : Int) by rw [hl]; omega]
          refine right_wp ob og rfl oc (by omega) (by omega) ?_
          dsimp only
          rw [run_if, if_neg (by decide), run_rt]
          exact qn _ (ke.mo (by omega))
    rw [run_bind, run_if]
    by_cases c : a = 0
    · rw [if_pos (by simpa using c), run_bind2]
      refine draw_wp k2 (by omega) (by decide) (by decide) fun y r3 y0 y1 k3 => ?_
      dsimp only
      rw [run_bind, run_rt, run_rt]
      exact rest _ _ _ y0 (by omega) (k3.mo (by omega)) fun _ h => h
    · rw [if_neg (by simpa using c), run_rt]
      exact rest _ _ _ (by omega) (by omega) (k2.mo (by omega)) fun _ h => h
  · rintro ⟨ra, ⟨⟩⟩ ha
    rfl
end M
namespace M
open PySem L2 Z
section
def topS (i : Nat) : Stmt := PySem.Challenge.pw_fewnotes_k50_replays_made.main.body.getD i (.Pass ⟨0, 0, 0, 0⟩)
variable {P : Program} {w : World} {K : PySem.W.Frag} {mg : Str → Option Value} {base : Heap} {cl tb : Nat → Addr}
def sp_is_touch (K : PySem.W.Frag) (cl tb : Nat → Addr) : Sp := fun vs H Q E => ∃ (amb : Grp) (Ho : Hp) (v0 : V) (x0 : (List Int)) (v1 : V) (x1 : Int) (v2 : V) (x2 : Int), vs = [v0, v1, v2] ∧ Zs amb H Ho ∧ LV K amb Ho v0 x0 ∧ Z.D K Ho v1 x1 ∧ Z.D K Ho v2 x2 ∧ (m_is_touch x0 x1 x2).run fun r => ∀ v H' Ho', Same Ho Ho' → Zs amb H' Ho' → Z.D K Ho' v r → Q v H'
abbrev s_is_touch : Stmt := topS 9
theorem sc_is_touch : FnScope ["counts", "hand", "k"] ["counts", "hand", "k"] (defScope s_is_touch) := ⟨rfl, rfl, rfl, by decide +kernel, rfl, by decide +kernel, by decide +kernel⟩
theorem ok_is_touch {f : Addr} {fd : FuncData} (F : Fun K "is_touch" "is_touch" s_is_touch f fd) (m_len : mg "len" = none) :
    FnOk P w K mg base CX0 1 f fd ["counts", "hand", "k"] (sp_is_touch K cl tb) := by
  refine F.ok sc_is_touch (fun vs H Q E h => ?_) (fun cdv A outer s H vs Q E hr h => ?_)
  · obtain ⟨amb, Ho, v_counts_, counts_, v_hand_, hand_, v_k_, k_, rfl, _⟩ := h
    rfl
  · obtain ⟨amb, Ho, v_counts_, counts_, v_hand_, hand_, v_k_, k_, rfl, z, d_counts_, d_hand_, d_k_, hw⟩ := h
    refine ⟨_, pss_cons (ps_ret (pe_and (pe_cmpR (op_le) (pe_int) (pv 1) (nomark _)) (pe_and (pe_cmpR (op_lt) (pv 1) (pe_callB (zlen (K := K) rfl) (by rfl) m_len (by decide +kernel) (pa_cons (pv 0) (pa_nil))) (nomark _)) (pe_and (pe_cmpR (op_le) (pe_int) (pv 2) (nomark _)) (pe_one (pe_cmpR (op_lt) (pv 2) (pe_ix (zix_list (K := K) rfl) (pv 0) (pv 1) (fun _ _ => rfl)) (nomark _))))))) (pss_nil), ?_⟩
    obtain rfl := d_int d_hand_
    obtain rfl := d_int d_k_
    refine y_ret ?_
    refine y_andV ?_
    refine y_op ?_
    refine y_c ?_
    refine y_var rfl ?_
    refine y_i0 ?_
    refine ⟨_, rfl, ?_⟩
    refine w_andVJ hw (fun (s : Bool) (v : V) (H2 : Hp) => ∃ (Ho2 : Hp), Same Ho Ho2 ∧ Zs amb H2 Ho2 ∧ v = V.bl s) (fun hb hw => ?_) (fun hb hw => ?_) ?_
    · refine y_andV ?_
      refine y_op ?_
      refine y_var rfl ?_
      refine y_cb ?_
      refine y_cons ?_
      refine y_var rfl ?_
      refine y_nil ?_
      refine y_len (LV.sub d_counts_ mgE) z ?_
      refine y_i0 ?_
      refine ⟨_, rfl, ?_⟩
      refine w_andVJ hw (fun (s : Bool) (v : V) (H2 : Hp) => ∃ (Ho2 : Hp), Same Ho Ho2 ∧ Zs amb H2 Ho2 ∧ v = V.bl s) (fun hb hw => ?_) (fun hb hw => ?_) ?_
      · refine y_andV ?_
        refine y_op ?_
        refine y_c ?_
        refine y_var rfl ?_
        refine y_i0 ?_
        refine ⟨_, rfl, ?_⟩
        refine w_andVJ hw (fun (s : Bool) (v : V) (H2 : Hp) => ∃ (Ho2 : Hp), Same Ho Ho2 ∧ Zs amb H2 Ho2 ∧ v = V.bl s) (fun hb hw => ?_) (fun hb hw => ?_) ?_
        · refine y_op ?_
          refine y_var rfl ?_
          refine y_op ?_
          refine y_var rfl ?_
          refine y_var rfl ?_
          refine y_ixL (LV.sub d_counts_ mgE) z hw (fun t1 w d2 hw => ?_)
          first | obtain rfl := d_int d2 | cases d_int d2
          refine y_i0 ?_
          exact (run_ret hw) _ _ ⟨_, (Same.refl _), z, rfl⟩
        · exact (run_ret hw) _ _ ⟨_, (Same.refl _), z, rfl⟩
        rintro t3 v H ⟨Ho, e, z, rfl⟩ hw
        replace d_counts_ := LV.mo d_counts_ e
        have es6 := (Same.refl _).trans e
        exact (run_ret hw) _ _ ⟨_, es6, z, rfl⟩
      · exact (run_ret hw) _ _ ⟨_, (Same.refl _), z, rfl⟩
      rintro t7 v H ⟨Ho, e, z, rfl⟩ hw
      replace d_counts_ := LV.mo d_counts_ e
      have es10 := (Same.refl _).trans e
      exact (run_ret hw) _ _ ⟨_, es10, z, rfl⟩
    · exact (run_ret hw) _ _ ⟨_, (Same.refl _), z, rfl⟩
    rintro t11 v H ⟨Ho, e, z, rfl⟩ hw
    replace d_counts_ := LV.mo d_counts_ e
    have es14 := (Same.refl _).trans e
    exact (run_ret hw) _ _ _ es14 z (Dq.bl _)
def sp_need_record (K : PySem.W.Frag) (cl tb : Nat → Addr) : Sp := fun vs H Q E => ∃ (amb : Grp) (Ho : Hp) (v0 : V) (x0 : ((List Int) × (List (P4 Int Int Int Int)))), vs = [v0] ∧ Zs amb H Ho ∧ LP K amb Ho v0 x0 ∧ (m_need_record x0).run (ExP (fun r => ∀ v H' Ho', Same Ho Ho' → Zs amb H' Ho' → Z.D K Ho' v r → Q v H') fun e => ∀ H' Ho', Same Ho Ho' → Zs amb H' Ho' → e.arg = .none → E (.ref (cl e.cls)) none H')
abbrev s_need_record : Stmt := topS 10
theorem sc_need_record : FnScope ["record", "counts", "some", "hand", "k", "other", "m"] ["record"] (defScope s_need_record) := ⟨rfl, rfl, rfl, by decide +kernel, rfl, by decide +kernel, by decide +kernel⟩
theorem ok_need_record {f : Addr} {fd : FuncData} (F : Fun K "need_record" "need_record" s_need_record f fd) {f_is_touch : Addr} {fd_is_touch : FuncData} (c_is_touch : Cal P w K mg base CX0 "is_touch" ["counts", "hand", "k"] 1 (sp_is_touch K cl tb) f_is_touch fd_is_touch) (xx_NoNote : PySem.W.excIn K (cl 2) [.type "ValueError", .type "Exception", .type "BaseException", .type "object"] "ValueError.__new__" = true) (gc_NoNote : mg "NoNote" = some (.ref (cl 2))) (kk_NoNote : PySem.W.keepIn K (.ref (cl 2)) = true) (bb_NoNote : PySem.W.subIn K (.ref (cl 2)) (.type "BaseException") = some true) (tt_NoNote : PySem.W.typeIn K (.ref (cl 2)) = some (.type "type")) :
    FnOk P w K mg base (L2.CX P w) 2 f fd ["record"] (sp_need_record K cl tb) := by
  refine F.okX sc_need_record (fun vs H Q E h => ?_) (fun cdv A outer s H vs Q E hr h => ?_)
  · obtain ⟨amb, Ho, v_record_, record_, rfl, _⟩ := h
    rfl
  · obtain ⟨amb, Ho, v_record_, record_, rfl, z, d_record_, hw⟩ := h
    refine ⟨_, pss_cons (ps_asg (pv 0) (zpg_tup (K := K) (n := 2) rfl rfl (pgs_cons (pg_name (i := 1) sc_need_record.nd rfl (Or.inl rfl)) (pgs_cons (pg_name (i := 2) sc_need_record.nd rfl (Or.inl rfl)) (pgs_nil))))) (pss_cons (ps_for (passes_of rfl) rfl (zpi_list (K := K) rfl (pv 2)) (zpg_tup (K := K) (n := 4) rfl rfl (pgs_cons (pg_name (i := 3) sc_need_record.nd rfl (Or.inl rfl)) (pgs_cons (pg_name (i := 4) sc_need_record.nd rfl (Or.inl rfl)) (pgs_cons (pg_name (i := 5) sc_need_record.nd rfl (Or.inl rfl)) (pgs_cons (pg_name (i := 6) sc_need_record.nd rfl (Or.inl rfl)) (pgs_nil)))))) (pss_cons (ps_if (PW.pt (pw_or (pt_cmpR (op_eq) (pv 3) (pv 5) (nomark _)) (pw_or (pt_not (pt_val (pe_call c_is_touch.ok (hr.mono (by decide)) (by rfl) c_is_touch.g c_is_touch.kp c_is_touch.b .nil pass0 (pa_cons (pv 1) (pa_cons (pv 3) (pa_cons (pv 4) (pa_nil))))))) (pw_or1 (pt_not (pt_val (pe_call c_is_touch.ok (hr.mono (by decide)) (by rfl) c_is_touch.g c_is_touch.kp c_is_touch.b .nil pass0 (pa_cons (pv 1) (pa_cons (pv 5) (pa_cons (pv 6) (pa_nil))))))))))) (pss_cons (zps_raise (K := K) rfl rfl (takes_of rfl rfl rfl rfl) xx_NoNote gc_NoNote kk_NoNote bb_NoNote tt_NoNote (by rfl)) (pss_nil)) (pss_nil)) (pss_nil))) (pss_nil)), ?_⟩
    obtain ⟨v_record__0_, v_record__1_, t_record_, d_record__0_, d_record__1_⟩ := d_record_
    refine h_nmG (P := fun x => LV K amb Ho v_record__0_ x) hw d_record__0_ (fun record__0_ d_record__0_ hw => ?_)
    refine h_nmG (P := fun x => LV K amb Ho v_record__1_ x) hw d_record__1_ (fun record__1_ d_record__1_ hw => ?_)
    refine y_asgG ?_
    refine y_var rfl ?_
    refine p_gt2 (fun v u => [_, some v, some u, _, _, _, _]) (fun _ _ => rfl) t_record_ z ?_
    refine h_nmG (P := fun x => LV K amb Ho v_record__0_ x) hw d_record__0_ (fun counts_ d_counts_ hw => ?_)
    refine h_nmG (P := fun x => LV K amb Ho v_record__1_ x) hw d_record__1_ (fun some_ d_some_ hw => ?_)
    refine y_for ?_
    refine k_iList ?_
    refine y_var rfl ?_
    refine k_srcL (r0 := amb) (LV.sub d_some_ mgE) mgE z (fun J T => ?_)
    refine y_forC T hw (fun (s : Unit) (σ : L2.St) (H Ho : Hp) => ∃ (y_hand_ : Option V) (y_k_ : Option V) (y_other_ : Option V) (y_m_ : Option V), σ = [some v_record_, some v_record__0_, some v_record__1_, y_hand_, y_k_, y_other_, y_m_] ∧ Zs amb H Ho) ⟨_, _, _, _, rfl, z⟩ ?_ ?_ ?_ ?_
    · intro s σ H Ho hI
      obtain ⟨y_hand_, y_k_, y_other_, y_m_, rfl, z⟩ := hI
      exact ⟨_, z, mgE⟩
    · intro s σ H Ho H2 Ho2 hI e t
      obtain ⟨y_hand_, y_k_, y_other_, y_m_, rfl, z⟩ := hI
      exact ⟨_, _, _, _, rfl, t _ z⟩
    · intro a x s σ H Ho N B e hI dx hw
      obtain ⟨y_hand_, y_k_, y_other_, y_m_, rfl, z⟩ := hI
      replace d_counts_ := LV.mo d_counts_ e
      replace t_record_ := TupAt.mo t_record_ e
      replace d_record__0_ := LV.mo d_record__0_ e
      replace d_record__1_ := LV.mo d_record__1_ e
      have es1 := (Same.refl _).trans e
      obtain ⟨hand_, k_, other_, m_⟩ := a
      refine c_gt4 (fun v_hand_ v_k_ v_other_ v_m_ => [some v_record_, some v_record__0_, some v_record__1_, some v_hand_, some v_k_, some v_other_, some v_m_]) (fun _ _ _ _ => rfl) dx z (fun v_hand_ v_k_ v_other_ v_m_ d_hand_ d_k_ d_other_ d_m_ => ?_)
      obtain rfl := d_int d_hand_
      obtain rfl := d_int d_k_
      obtain rfl := d_int d_other_
      obtain rfl := d_int d_m_
      refine y_ifS ?_
      refine y_or ?_
      refine y_test ?_
      refine y_op ?_
      refine y_var rfl ?_
      refine y_var rfl ?_
      refine y_eqi ?_
      refine ⟨_, rfl, ?_⟩
      refine w_orJ hw (fun (s : Bool) (v : Bool) (H2 : Hp) => ∃ (Ho2 : Hp), Same Ho Ho2 ∧ Zs amb H2 Ho2 ∧ v = s) (fun hb hw => ?_) (fun hb hw => ?_) ?_
      · exact (run_ret hw) _ _ ⟨_, (Same.refl _), z, rfl⟩
      · refine y_or ?_
        refine y_not ?_
        refine y_tB ?_
        refine y_call ?_
        refine y_cons ?_
        refine y_var rfl ?_
        refine y_cons ?_
        refine y_var rfl ?_
        refine y_cons ?_
        refine y_var rfl ?_
        refine y_nil ?_
        refine ⟨amb, _, _, _, _, _, _, _, rfl, z, (LV.sub d_counts_ mgE), (Dq.int _), (Dq.int _), ?_⟩
        refine run_mono3 hw (fun t2 hw v H Ho e z d3 => ?_)
        replace d_counts_ := LV.mo d_counts_ e
        replace t_record_ := TupAt.mo t_record_ e
        replace d_record__0_ := LV.mo d_record__0_ e
        replace d_record__1_ := LV.mo d_record__1_ e
        have es5 := (Same.refl _).trans e
        first | obtain rfl := d_bool d3 | cases d_bool d3
        refine ⟨_, rfl, ?_⟩
        refine w_orJ hw (fun (s : Bool) (v : Bool) (H2 : Hp) => ∃ (Ho2 : Hp), Same Ho Ho2 ∧ Zs amb H2 Ho2 ∧ v = s) (fun hb hw => ?_) (fun hb hw => ?_) ?_
        · exact (run_ret hw) _ _ ⟨_, (Same.refl _), z, rfl⟩
        · refine y_not ?_
          refine y_tB ?_
          refine y_call ?_
          refine y_cons ?_
          refine y_var rfl ?_
          refine y_cons ?_
          refine y_var rfl ?_
          refine y_cons ?_
          refine y_var rfl ?_
          refine y_nil ?_
          refine ⟨amb, _, _, _, _, _, _, _, rfl, z, (LV.sub d_counts_ mgE), (Dq.int _), (Dq.int _), ?_⟩
          refine run_mono3 hw (fun t6 hw v H Ho e z d7 => ?_)
          replace d_counts_ := LV.mo d_counts_ e
          replace t_record_ := TupAt.mo t_record_ e
          replace d_record__0_ := LV.mo d_record__0_ e
          replace d_record__1_ := LV.mo d_record__1_ e
          have es9 := (Same.refl _).trans e
          first | obtain rfl := d_bool d7 | cases d_bool d7
          refine ⟨_, rfl, ?_⟩
          exact (run_ret hw) _ _ ⟨_, es9, z, rfl⟩
        rintro t10 v H ⟨Ho, e, z, rfl⟩ hw
        replace d_counts_ := LV.mo d_counts_ e
        replace t_record_ := TupAt.mo t_record_ e
        replace d_record__0_ := LV.mo d_record__0_ e
        replace d_record__1_ := LV.mo d_record__1_ e
        have es13 := es5.trans e
        exact (run_ret hw) _ _ ⟨_, es13, z, rfl⟩
      rintro t14 v H ⟨Ho, e, z, rfl⟩ hw
      replace d_counts_ := LV.mo d_counts_ e
      replace t_record_ := TupAt.mo t_record_ e
      replace d_record__0_ := LV.mo d_record__0_ e
      replace d_record__1_ := LV.mo d_record__1_ e
      have es17 := (Same.refl _).trans e
      refine y_cases hw (fun hb hw => ?_) (fun hb hw => ?_)
      · refine y_raise ?_
        exact exP_er (ctl_rt (run_ret hw)) _ _ (es1.trans es17) z rfl
      · refine y_nxS ?_
        exact ctl_nx (run_ret hw) _ _ _ es17 ⟨_, _, _, _, rfl, z⟩
    intro s σ H Ho e hI hw
    obtain ⟨y_hand_, y_k_, y_other_, y_m_, rfl, z⟩ := hI
    replace t_record_ := TupAt.mo t_record_ e
    replace d_record__0_ := LV.mo d_record__0_ e
    replace d_record__1_ := LV.mo d_record__1_ e
    have es18 := (Same.refl _).trans e
    exact (exP_ok (run_ret hw)) _ _ _ es18 z Dq.non
def sp_first_numbers (K : PySem.W.Frag) (cl tb : Nat → Addr) : Sp := fun vs H Q E => ∃ (amb : Grp) (Ho : Hp) (v0 : V) (x0 : Int) (v1 : V) (x1 : (Option (List Int))), vs = [v0, v1] ∧ Zs amb H Ho ∧ Z.D K Ho v0 x0 ∧ Z.D K Ho v1 x1 ∧ (m_first_numbers x0 x1).run fun r => ∀ v g H' Ho', Same Ho Ho' → Zs (g ++ amb) H' Ho' → OL K Ho' v r g → Q v H'
abbrev s_first_numbers : Stmt := topS 28
theorem sc_first_numbers : FnScope ["many", "numbers", "number"] ["many", "numbers"] (defScope s_first_numbers) := ⟨rfl, rfl, rfl, by decide +kernel, rfl, by decide +kernel, by decide +kernel⟩
theorem ok_first_numbers {f : Addr} {fd : FuncData} (F : Fun K "first_numbers" "first_numbers" s_first_numbers f fd) (m_len : mg "len" = none) (m_list : mg "list" = none) {tk_ROUND : Tok} (g_ROUND : mg "ROUND" = some (.int 1000 tk_ROUND)) :
    FnOk P w K mg base CX0 1 f fd ["many", "numbers"] (sp_first_numbers K cl tb) := by
  refine F.ok sc_first_numbers (fun vs H Q E h => ?_) (fun cdv A outer s H vs Q E hr h => ?_)
  · obtain ⟨amb, Ho, v_many_, many_, v_numbers_, numbers_, rfl, _⟩ := h
    rfl
  · obtain ⟨amb, Ho, v_many_, many_, v_numbers_, numbers_, rfl, z, d_many_, d_numbers_, hw⟩ := h
    refine ⟨_, pss_cons (ps_if (pt_cmpR (op_isN) (pv 1) (pe_non) (nomark _)) (pss_cons (ps_ret (pe_op op_rep (pe_lst (pa_cons (pe_int) (pa_nil))) (pv 0))) (pss_nil)) (pss_nil)) (pss_cons (ps_if (pt_cmpR (op_ne) (pe_callB (zlen (K := K) rfl) (by rfl) m_len (by decide +kernel) (pa_cons (pv 1) (pa_nil))) (pv 0) (nomark _)) (pss_cons (ps_never) (pss_nil)) (pss_nil)) (pss_cons (ps_for PassesOwn.never rfl (zpi_list (K := K) rfl (pv 1)) (pg_name (i := 2) sc_first_numbers.nd rfl (Or.inl rfl)) (pss_cons (ps_if (PW.pt (pw_or (pt_cmpR (op_lt) (pv 2) (pe_int) (nomark _)) (pw_or1 (pt_cmpR (op_ge) (pv 2) (pe_glob (v := .int 1000) rfl g_ROUND ⟨_, rfl⟩) (nomark _))))) (pss_cons (ps_never) (pss_nil)) (pss_nil)) (pss_nil))) (pss_cons (ps_ret (pe_callTy (zlist (K := K) rfl) (by rfl) m_list (by decide +kernel) (pa_cons (pv 1) (pa_nil)))) (pss_nil)))), ?_⟩
    obtain rfl := d_int d_many_
    refine y_ifS ?_
    refine y_test ?_
    refine y_op ?_
    refine y_var rfl ?_
    refine y_c ?_
    refine ⟨rfl, ?_⟩
    rw [dec_non d_numbers_ hw.1]
    replace hw := (run_gd hw).2
    refine ⟨_, rfl, ?_⟩
    refine y_cases hw (fun hb hw => ?_) (fun hb hw => ?_)
    · refine y_ret ?_
      refine y_op ?_
      refine k_lst ?_
      refine y_cons ?_
      refine y_c ?_
      refine y_nil ?_
      refine k_lstk (K := K) (xs := ([(0 : Int)] : (List Int))) z (DqAll.cons (Dq.int _) DqAll.nil) (by show 1 ≤ sizeLine; decide) (fun H p1 ws2 z d3 => ?_)
      replace z : Zs ([(p1, HO.lst ws2)] ++ amb) H Ho := z
      have o4 := OL.mk (p := p1) d3
      refine y_var rfl ?_
      refine y_rep z d3 hw.1 (fun H p5 ws6 z d7 => ?_)
      replace hw := (run_gd hw).2
      replace z : Zs ([(p5, HO.lst ws6)] ++ amb) H Ho := z
      have o8 := OL.mk (p := p5) d7
      exact (run_ret hw) _ _ _ _ (Same.refl _) z o8
    · refine y_nxS ?_
      refine y_ifS ?_
      refine y_test ?_
      refine y_op ?_
      refine y_cb ?_
      refine y_cons ?_
      refine y_var rfl ?_
      refine y_nil ?_
      refine y_get d_numbers_ hw (fun t9 d10 hw => ?_)
      refine y_len (LV.of d10) z ?_
      refine y_var rfl ?_
      refine y_nei ?_
      refine ⟨_, rfl, ?_⟩
      refine y_cases hw (fun hb hw => ?_) (fun hb hw => ?_)
      · exact hw.elim
      · refine y_nxS ?_
        refine y_for ?_
        refine k_iList ?_
        refine y_var rfl ?_
        refine y_get d_numbers_ hw (fun t11 d12 hw => ?_)
        refine k_srcL (r0 := ([] : Grp)) (LV.of d12) mgN z (fun J T => ?_)
        refine y_forL T hw (fun (s : Unit) (σ : L2.St) (H Ho : Hp) => ∃ (y_number_ : Option V), σ = [some (V.int many_), some v_numbers_, y_number_] ∧ Zs amb H Ho) ⟨_, rfl, z⟩ ?_ ?_ ?_ ?_
        · intro s σ H Ho hI
          obtain ⟨y_number_, rfl, z⟩ := hI
          exact ⟨_, z, mgN⟩
        · intro s σ H Ho H2 Ho2 hI e t
          obtain ⟨y_number_, rfl, z⟩ := hI
          exact ⟨_, rfl, t _ z⟩
        · intro number_ v_number_ s σ H Ho N e hI d_number_ hw
          obtain ⟨y_number_, rfl, z⟩ := hI
          replace d_numbers_ := D.mo d_numbers_ e
          have es13 := (Same.refl _).trans e
          obtain rfl := d_int d_number_
          refine y_gname (σ' := [some (V.int many_), some v_numbers_, some (V.int number_)]) rfl ?_
          refine y_ifS ?_
          refine y_or ?_
          refine y_test ?_
          refine y_op ?_
          refine y_var rfl ?_
          refine y_c ?_
          refine y_i0 ?_
          refine ⟨_, rfl, ?_⟩
          refine w_orP (a := (decide (number_ < (0 : Int)))) (decide (number_ ≥ (1000 : Int))) (fun hb hq => ?_) ?_
          · refine y_test ?_
            refine y_op ?_
            refine y_var rfl ?_
            refine y_c ?_
            refine y_i0 ?_
            refine ⟨_, rfl, ?_⟩
            exact hq
          refine y_cases hw (fun hb hw => ?_) (fun hb hw => ?_)
          · exact hw.elim
          · refine y_nxS ?_
            exact (run_ret hw) _ _ _ (Same.refl _) ⟨_, rfl, z⟩
        intro s σ H Ho e hI hw
        obtain ⟨y_number_, rfl, z⟩ := hI
        replace d_numbers_ := D.mo d_numbers_ e
        have es14 := (Same.refl _).trans e
        refine y_ret ?_
        refine y_cb ?_
        refine y_cons ?_
        refine y_var rfl ?_
        refine y_get d_numbers_ hw (fun t15 d16 hw => ?_)
        refine y_nil ?_
        refine y_list (LV.of d16) z (fun H p17 ws18 z d19 => ?_)
        replace z : Zs ([(p17, HO.lst ws18)] ++ amb) H Ho := z
        have o20 := OL.mk (p := p17) d19
        exact (run_ret hw) _ _ _ _ es14 z o20
def sp_Hand___init__ (K : PySem.W.Frag) (cl tb : Nat → Addr) : Sp := fun vs H Q E => ∃ (amb : Grp) (Ho : Hp) (a dx C : Addr) (v1 : V) (x1 : (List PyData)), vs = [.ref a, v1] ∧ Zs ([(a, HO.ins C dx (ns_Hand.zip []))] ++ amb) H Ho ∧ PySem.W.nsIn K mainGlobals "Hand" = some (some (.ref C)) ∧ LV K amb Ho v1 x1 ∧ (m_Hand___init__ x1).run fun r => ∀ g H' Ho', Same Ho Ho' → Zs (g ++ amb) H' Ho' → OC_Hand K Ho' (.ref a) r g → Q .non H'
abbrev s_Hand___init__ : Stmt := inClass (topS 18) 0
theorem sc_Hand___init__ : FnScope ["self", "rows"] ["self", "rows"] (defScope s_Hand___init__) := ⟨rfl, rfl, rfl, by decide +kernel, rfl, by decide +kernel, by decide +kernel⟩
theorem ok_Hand___init__ {f : Addr} {fd : FuncData} (F : Fun K "__init__" "Hand.__init__" s_Hand___init__ f fd) {q_Hand : Addr} (m_list : mg "list" = none) (m_len : mg "len" = none) {tk_LETTERS : Tok} (g_LETTERS : mg "LETTERS" = some (.str ("abcdefgh" : Str) tk_LETTERS)) (cf_Hand : CF K q_Hand "Hand" ns_Hand) :
    FnOk P w K mg base CX0 1 f fd ["self", "rows"] (sp_Hand___init__ K cl tb) := by
  refine F.ok sc_Hand___init__ (fun vs H Q E h => ?_) (fun cdv A outer s H vs Q E hr h => ?_)
  · obtain ⟨amb, Ho, a_self, dx_self, C0, v_rows_, rows_, rfl, _⟩ := h
    rfl
  · obtain ⟨amb, Ho, a_self, dx_self, C0, v_rows_, rows_, rfl, z, hC, d_rows_, hw⟩ := h
    refine ⟨_, pss_cons (zps_fld (K := K) rfl (pv 0) (pe_callTy (zlist (K := K) rfl) (by rfl) m_list (by decide +kernel) (pa_cons (pv 1) (pa_nil))) rfl) (pss_cons (zps_fld (K := K) rfl (pv 0) (pe_int) rfl) (pss_cons (zps_fld (K := K) rfl (pv 0) (pe_op op_rep (pe_lst (pa_cons (pe_int) (pa_nil))) (pe_callB zlenS (by rfl) m_len (by decide +kernel) (pa_cons (pe_glob (v := .str ("abcdefgh" : Str)) rfl g_LETTERS ⟨_, rfl⟩) (pa_nil)))) rfl) (pss_cons (zps_fld (K := K) rfl (pv 0) (pe_lst (pa_nil)) rfl) (pss_cons (zps_fld (K := K) rfl (pv 0) (pe_str) rfl) (pss_nil))))), ?_⟩
    obtain rfl := cf_Hand.eq hC
    replace z : Zs ([(a_self, HO.ins q_Hand dx_self (ns_Hand.zip []))] ++ amb) H Ho := z
    refine y_sfld ?_
    refine y_cb ?_
    refine y_cons ?_
    refine y_var rfl ?_
    refine y_nil ?_
    refine y_list (LV.sub d_rows_ (mgS mgE)) z (fun H p1 ws2 z d3 => ?_)
    replace z : Zs ([(p1, HO.lst ws2)] ++ ([(a_self, HO.ins q_Hand dx_self (ns_Hand.zip []))] ++ amb)) H Ho := z
    have o4 := OL.mk (p := p1) d3
    refine l_fr o4 z (fun Ho e z d5 => ?_)
    have es6 := (Same.refl _).trans e
    refine l_d (K := K) (Ho := Ho) hw d5 (fun self__rows_ v_self__rows_ d_self__rows_ hw => ?_)
    refine y_var rfl ?_
    refine o_nfld cf_Hand z rfl (fun H z => ?_)
    replace z : Zs ([(a_self, HO.ins q_Hand dx_self (ns_Hand.zip [v_self__rows_]))] ++ amb) H Ho := z
    refine y_sfld ?_
    refine y_c ?_
    refine l_i hw (fun self__at_ hw => ?_)
    refine y_var rfl ?_
    refine o_nfld cf_Hand z rfl (fun H z => ?_)
    replace z : Zs ([(a_self, HO.ins q_Hand dx_self (ns_Hand.zip [v_self__rows_, (V.int self__at_)]))] ++ amb) H Ho := z
    refine y_sfld ?_
    refine y_op ?_
    refine k_lst ?_
    refine y_cons ?_
    refine y_c ?_
    refine y_nil ?_
    refine k_lstk (K := K) (xs := ([(0 : Int)] : (List Int))) z (DqAll.cons (Dq.int _) DqAll.nil) (by show 1 ≤ sizeLine; decide) (fun H p7 ws8 z d9 => ?_)
    replace z : Zs ([(p7, HO.lst ws8)] ++ ([(a_self, HO.ins q_Hand dx_self (ns_Hand.zip [v_self__rows_, (V.int self__at_)]))] ++ amb)) H Ho := z
    have o10 := OL.mk (p := p7) d9
    refine y_cb ?_
    refine y_cons ?_
    refine y_c ?_
    refine y_nil ?_
    refine y_lenStr hw.1 ?_
    replace hw := (run_gd hw).2
    refine y_rep z d9 hw.1 (fun H p11 ws12 z d13 => ?_)
    replace hw := (run_gd hw).2
    replace z : Zs ([(p11, HO.lst ws12)] ++ ([(a_self, HO.ins q_Hand dx_self (ns_Hand.zip [v_self__rows_, (V.int self__at_)]))] ++ amb)) H Ho := z
    have o14 := OL.mk (p := p11) d13
    refine l_oG (P := fun v x g => OL K Ho v x g) hw z o14 (fun self__held_ v_self__held_ g_self__held_ z d_self__held_ hw => ?_)
    refine y_var rfl ?_
    replace z : Zs ([(a_self, HO.ins q_Hand dx_self (ns_Hand.zip [v_self__rows_, (V.int self__at_)]))] ++ (g_self__held_ ++ amb)) _ _ := z.go [g_self__held_, [(a_self, HO.ins q_Hand dx_self (ns_Hand.zip [v_self__rows_, (V.int self__at_)]))]] amb [1, 0]
    refine o_nfld cf_Hand z rfl (fun H z => ?_)
    replace z : Zs ([(a_self, HO.ins q_Hand dx_self (ns_Hand.zip [v_self__rows_, (V.int self__at_), v_self__held_]))] ++ (g_self__held_ ++ amb)) H Ho := z
    refine y_sfld ?_
    refine k_lst ?_
    refine y_nil ?_
    refine k_lstk (K := K) (xs := ([] : (List Int))) z DqAll.nil (by show 0 ≤ sizeLine; decide) (fun H p15 ws16 z d17 => ?_)
    replace z : Zs ([(p15, HO.lst ws16)] ++ ([(a_self, HO.ins q_Hand dx_self (ns_Hand.zip [v_self__rows_, (V.int self__at_), v_self__held_]))] ++ (g_self__held_ ++ amb))) H Ho := z
    have o18 := OL.mk (p := p15) d17
    refine l_oG (P := fun v x g => OL K Ho v x g) hw z o18 (fun self__spoken_ v_self__spoken_ g_self__spoken_ z d_self__spoken_ hw => ?_)
    refine y_var rfl ?_
    replace z : Zs ([(a_self, HO.ins q_Hand dx_self (ns_Hand.zip [v_self__rows_, (V.int self__at_), v_self__held_]))] ++ (g_self__spoken_ ++ (g_self__held_ ++ amb))) _ _ := z.go [g_self__spoken_, [(a_self, HO.ins q_Hand dx_self (ns_Hand.zip [v_self__rows_, (V.int self__at_), v_self__held_]))], g_self__held_] amb [1, 0, 2]
    refine o_nfld cf_Hand z rfl (fun H z => ?_)
    replace z : Zs ([(a_self, HO.ins q_Hand dx_self (ns_Hand.zip [v_self__rows_, (V.int self__at_), v_self__held_, v_self__spoken_]))] ++ (g_self__spoken_ ++ (g_self__held_ ++ amb))) H Ho := z
    refine y_sfld ?_
    refine y_c ?_
    refine l_s hw (fun self__way_ hw => ?_)
    refine y_var rfl ?_
    refine o_nfld cf_Hand z rfl (fun H z => ?_)
    replace z : Zs ([(a_self, HO.ins q_Hand dx_self (ns_Hand.zip [v_self__rows_, (V.int self__at_), v_self__held_, v_self__spoken_, (V.str self__way_)]))] ++ (g_self__spoken_ ++ (g_self__held_ ++ amb))) H Ho := z
    replace z : Zs ([(a_self, HO.ins q_Hand dx_self (ns_Hand.zip [v_self__rows_, (V.int self__at_), v_self__held_, v_self__spoken_, (V.str self__way_)]))] ++ (g_self__held_ ++ (g_self__spoken_ ++ amb))) _ _ := z.go [[(a_self, HO.ins q_Hand dx_self (ns_Hand.zip [v_self__rows_, (V.int self__at_), v_self__held_, v_self__spoken_, (V.str self__way_)]))], g_self__spoken_, g_self__held_] amb [0, 2, 1]
    refine OC_Hand.cl (x := (⟨self__rows_, self__at_, self__held_, self__spoken_, self__way_⟩ : ObHand)) cf_Hand d_self__rows_ (Dq.int _) d_self__held_ d_self__spoken_ (Dq.str _) z (fun g19 d20 z => ?_)
    exact (run_ret hw) _ _ _ es6 z d20
def sp_put_in (K : PySem.W.Frag) (cl tb : Nat → Addr) : Sp := fun vs H Q E => ∃ (amb : Grp) (Ho : Hp) (v0 : V) (x0 : ObHand) (g0 : Grp) (v1 : V) (x1 : Str) (v2 : V) (x2 : Int), vs = [v0, v1, v2] ∧ Zs (g0 ++ amb) H Ho ∧ OC_Hand K Ho v0 x0 g0 ∧ Z.D K Ho v1 x1 ∧ Z.D K Ho v2 x2 ∧ (m_put_in x0 x1 x2).run fun r => ∀ v h0 H' Ho', Same Ho Ho' → Zs (h0 ++ amb) H' Ho' → Z.D K Ho' v r.1 → OC_Hand K Ho' v0 r.2 h0 → Q v H'
abbrev s_put_in : Stmt := topS 21
theorem sc_put_in : FnScope ["hand", "box", "number"] ["hand", "box", "number"] (defScope s_put_in) := ⟨rfl, rfl, rfl, by decide +kernel, rfl, by decide +kernel, by decide +kernel⟩
theorem ok_put_in {f : Addr} {fd : FuncData} (F : Fun K "put_in" "put_in" s_put_in f fd) {q_Hand : Addr} {tk_LETTERS : Tok} (g_LETTERS : mg "LETTERS" = some (.str ("abcdefgh" : Str) tk_LETTERS)) (cf_Hand : CF K q_Hand "Hand" ns_Hand) :
    FnOk P w K mg base CX0 1 f fd ["hand", "box", "number"] (sp_put_in K cl tb) := by
  refine F.ok sc_put_in (fun vs H Q E h => ?_) (fun cdv A outer s H vs Q E hr h => ?_)
  · obtain ⟨amb, Ho, v_hand_, hand_, g_hand_, v_box_, box_, v_number_, number_, rfl, _⟩ := h
    rfl
  · obtain ⟨amb, Ho, v_hand_, hand_, g_hand_, v_box_, box_, v_number_, number_, rfl, z, d_hand_, d_box_, d_number_, hw⟩ := h
    refine ⟨_, pss_cons (ps_asg (pv 2) (pg_sub (zpe_fld (K := K) rfl (pv 0) rfl) (pe_m1 PySem.F.slot_str_index PySem.F.type_str_index zmt_sindex (pe_glob (v := .str ("abcdefgh" : Str)) rfl g_LETTERS ⟨_, rfl⟩) (pv 1)) set_list)) (pss_nil), ?_⟩
    obtain rfl := d_str d_box_
    obtain rfl := d_int d_number_
    refine OC_Hand.op cf_Hand d_hand_ z (fun a_hand dx_hand v_hand__rows_ v_hand__at_ v_hand__held_ v_hand__spoken_ v_hand__way_ g_hand__held_ g_hand__spoken_ hv hg_hand d_hand__rows_ d_hand__at_ d_hand__held_ d_hand__spoken_ d_hand__way_ z => ?_)
    cases hv
    refine h_nmG (P := fun x => Z.D K Ho v_hand__rows_ x) hw d_hand__rows_ (fun hand__rows_ d_hand__rows_ hw => ?_)
    refine h_nmG (P := fun x => Z.D K Ho v_hand__at_ x) hw d_hand__at_ (fun hand__at_ d_hand__at_ hw => ?_)
    obtain rfl := d_int d_hand__at_
    refine h_nmG (P := fun x => OL K Ho v_hand__held_ x g_hand__held_) hw d_hand__held_ (fun hand__held_ d_hand__held_ hw => ?_)
    refine h_nmG (P := fun x => OL K Ho v_hand__spoken_ x g_hand__spoken_) hw d_hand__spoken_ (fun hand__spoken_ d_hand__spoken_ hw => ?_)
    refine h_nmG (P := fun x => Z.D K Ho v_hand__way_ x) hw d_hand__way_ (fun hand__way_ d_hand__way_ hw => ?_)
    obtain rfl := d_str d_hand__way_
    replace z : Zs ([(a_hand, HO.ins q_Hand dx_hand (ns_Hand.zip [v_hand__rows_, (V.int hand__at_), v_hand__held_, v_hand__spoken_, (V.str hand__way_)]))] ++ (g_hand__held_ ++ (g_hand__spoken_ ++ amb))) H Ho := z
    refine y_asgG ?_
    refine y_var rfl ?_
    refine y_gsub ?_
    refine y_fld ?_
    refine y_var rfl ?_
    refine o_fld (i := 2) cf_Hand mg0 z rfl rfl ?_
    refine y_tm1 ?_
    refine y_c ?_
    refine y_tm1s ?_
    refine y_var rfl ?_
    refine y_sindex hw (fun t2 hw => ?_)
    replace z : Zs (g_hand__held_ ++ ([(a_hand, HO.ins q_Hand dx_hand (ns_Hand.zip [v_hand__rows_, (V.int hand__at_), v_hand__held_, v_hand__spoken_, (V.str hand__way_)]))] ++ (g_hand__spoken_ ++ amb))) _ _ := z.go [[(a_hand, HO.ins q_Hand dx_hand (ns_Hand.zip [v_hand__rows_, (V.int hand__at_), v_hand__held_, v_hand__spoken_, (V.str hand__way_)]))], g_hand__held_, g_hand__spoken_] amb [1, 0, 2]
    refine g_sti z d_hand__held_ (Dq.int _) hw (fun hand__held_ g_hand__held_ H z d_hand__held_ hw => ?_)
    replace z : Zs ([(a_hand, HO.ins q_Hand dx_hand (ns_Hand.zip [v_hand__rows_, (V.int hand__at_), v_hand__held_, v_hand__spoken_, (V.str hand__way_)]))] ++ (g_hand__held_ ++ (g_hand__spoken_ ++ amb))) _ _ := z.go [g_hand__held_, [(a_hand, HO.ins q_Hand dx_hand (ns_Hand.zip [v_hand__rows_, (V.int hand__at_), v_hand__held_, v_hand__spoken_, (V.str hand__way_)]))], g_hand__spoken_] amb [1, 0, 2]
    refine OC_Hand.cl (x := (⟨hand__rows_, hand__at_, hand__held_, hand__spoken_, hand__way_⟩ : ObHand)) cf_Hand d_hand__rows_ (Dq.int _) d_hand__held_ d_hand__spoken_ (Dq.str _) z (fun g3 d4 z => ?_)
    exact (run_ret hw) _ _ _ _ (Same.refl _) z Dq.non d4
def sp_worth_now_R (n : Nat) (K : PySem.W.Frag) (cl tb : Nat → Addr) : Sp := fun vs H Q E => ∃ (amb : Grp) (Ho : Hp) (v0 : V) (x0 : (List Int)) (v1 : V) (x1 : PyData), vs = [v0, v1] ∧ Zs amb H Ho ∧ LV K amb Ho v0 x0 ∧ Z.D K Ho v1 x1 ∧ (m_worth_now_R n x0 x1).run fun r => ∀ v H' Ho', Same Ho Ho' → Zs amb H' Ho' → Z.D K Ho' v r → Q v H'
abbrev s_worth_now : Stmt := topS 19
theorem sc_worth_now : FnScope ["held", "told"] ["held", "told"] (defScope s_worth_now) := ⟨rfl, rfl, rfl, by decide +kernel, rfl, by decide +kernel, by decide +kernel⟩
theorem ok_worth_now_S {f : Addr} {fd : FuncData} (F : Fun K "worth_now" "worth_now" s_worth_now f fd) {n : Nat} (c_worth_now : Cal P w K mg base CX0 "worth_now" ["held", "told"] (1 + n) (sp_worth_now_R n K cl tb) f fd) {tk_LETTERS : Tok} (g_LETTERS : mg "LETTERS" = some (.str ("abcdefgh" : Str) tk_LETTERS)) {tk_ROUND : Tok} (g_ROUND : mg "ROUND" = some (.int 1000 tk_ROUND)) :
    FnOk P w K mg base CX0 (1 + n + 1) f fd ["held", "told"] (sp_worth_now_R (n + 1) K cl tb) := by
  refine F.ok sc_worth_now (fun vs H Q E h => ?_) (fun cdv A outer s H vs Q E hr h => ?_)
  · obtain ⟨amb, Ho, v_held_, held_, v_told_, told_, rfl, _⟩ := h
    rfl
  · obtain ⟨amb, Ho, v_held_, held_, v_told_, told_, rfl, z, d_held_, d_told_, hw⟩ := h
    refine ⟨_, pss_cons (ps_if (pt_cmpR (zop_eqD (K := K) rfl hr.units) (pe_ix (zix_any (K := K) rfl) (pv 1) (pe_int) (fun _ _ => rfl)) (pe_str) (nomark _)) (pss_cons (ps_ret (pe_ix (zix_any (K := K) rfl) (pv 1) (pe_int) (fun _ _ => rfl))) (pss_nil)) (pss_nil)) (pss_cons (ps_if (pt_cmpR (zop_eqD (K := K) rfl hr.units) (pe_ix (zix_any (K := K) rfl) (pv 1) (pe_int) (fun _ _ => rfl)) (pe_str) (nomark _)) (pss_cons (ps_ret (pe_ix (zix_list (K := K) rfl) (pv 0) (pe_m1 PySem.F.slot_str_index PySem.F.type_str_index zmt_sindex (pe_glob (v := .str ("abcdefgh" : Str)) rfl g_LETTERS ⟨_, rfl⟩) (pe_ix (zix_any (K := K) rfl) (pv 1) (pe_int) (fun _ _ => rfl))) (fun _ _ => rfl))) (pss_nil)) (pss_nil)) (pss_cons (ps_if (pt_cmpR (zop_eqD (K := K) rfl hr.units) (pe_ix (zix_any (K := K) rfl) (pv 1) (pe_int) (fun _ _ => rfl)) (pe_str) (nomark _)) (pss_cons (ps_ret (pe_op op_mod (pe_op op_add (pe_call c_worth_now.ok (hr.mono (by omega)) (by rfl) c_worth_now.g c_worth_now.kp c_worth_now.b .nil pass0 (pa_cons (pv 0) (pa_cons (pe_ix (zix_any (K := K) rfl) (pv 1) (pe_int) (fun _ _ => rfl)) (pa_nil)))) (pe_call c_worth_now.ok (hr.mono (by omega)) (by rfl) c_worth_now.g c_worth_now.kp c_worth_now.b .nil pass0 (pa_cons (pv 0) (pa_cons (pe_ix (zix_any (K := K) rfl) (pv 1) (pe_int) (fun _ _ => rfl)) (pa_nil))))) (pe_glob (v := .int 1000) rfl g_ROUND ⟨_, rfl⟩))) (pss_nil)) (pss_nil)) (pss_cons (ps_ret (pe_op op_mod (pe_op op_sub (pe_call c_worth_now.ok (hr.mono (by omega)) (by rfl) c_worth_now.g c_worth_now.kp c_worth_now.b .nil pass0 (pa_cons (pv 0) (pa_cons (pe_ix (zix_any (K := K) rfl) (pv 1) (pe_int) (fun _ _ => rfl)) (pa_nil)))) (pe_call c_worth_now.ok (hr.mono (by omega)) (by rfl) c_worth_now.g c_worth_now.kp c_worth_now.b .nil pass0 (pa_cons (pv 0) (pa_cons (pe_ix (zix_any (K := K) rfl) (pv 1) (pe_int) (fun _ _ => rfl)) (pa_nil))))) (pe_glob (v := .int 1000) rfl g_ROUND ⟨_, rfl⟩))) (pss_nil)))), ?_⟩
    refine y_ifS ?_
    refine y_test ?_
    refine y_op ?_
    refine y_op ?_
    refine y_var rfl ?_
    refine y_c ?_
    refine y_ixP d_told_ z hw (fun t1 w d2 hw => ?_)
    refine y_c ?_
    refine y_eqD (D.mo d2 z.le) (Dq.str _) hw.1 ?_
    replace hw := (run_gd hw).2
    refine ⟨_, rfl, ?_⟩
    refine y_cases hw (fun hb hw => ?_) (fun hb hw => ?_)
    · refine y_ret ?_
      refine y_op ?_
      refine y_var rfl ?_
      refine y_c ?_
      refine y_ixP d_told_ z hw (fun t3 w d4 hw => ?_)
      refine y_fr (β := Int) d4 hw (fun t5 d6 hw => ?_)
      first | obtain rfl := d_int d6 | cases d_int d6
      exact (run_ret hw) _ _ _ (Same.refl _) z (Dq.int _)
    · refine y_nxS ?_
      refine y_ifS ?_
      refine y_test ?_
      refine y_op ?_
      refine y_op ?_
      refine y_var rfl ?_
      refine y_c ?_
      refine y_ixP d_told_ z hw (fun t7 w d8 hw => ?_)
      refine y_c ?_
      refine y_eqD (D.mo d8 z.le) (Dq.str _) hw.1 ?_
      replace hw := (run_gd hw).2
      refine ⟨_, rfl, ?_⟩
      refine y_cases hw (fun hb hw => ?_) (fun hb hw => ?_)
      · refine y_ret ?_
        refine y_op ?_
        refine y_var rfl ?_
        refine y_tm1 ?_
        refine y_c ?_
        refine y_tm1s ?_
        refine y_op ?_
        refine y_var rfl ?_
        refine y_c ?_
        refine y_ixP d_told_ z hw (fun t9 w d10 hw => ?_)
        refine y_fr (β := Str) d10 hw (fun t11 d12 hw => ?_)
        first | obtain rfl := d_str d12 | cases d_str d12
        refine y_sindex hw (fun t13 hw => ?_)
        refine y_ixL (LV.sub d_held_ mgE) z hw (fun t14 w d15 hw => ?_)
        first | obtain rfl := d_int d15 | cases d_int d15
        exact (run_ret hw) _ _ _ (Same.refl _) z (Dq.int _)
      · refine y_nxS ?_
        refine y_ifS ?_
        refine y_test ?_
        refine y_op ?_
        refine y_op ?_
        refine y_var rfl ?_
        refine y_c ?_
        refine y_ixP d_told_ z hw (fun t16 w d17 hw => ?_)
        refine y_c ?_
        refine y_eqD (D.mo d17 z.le) (Dq.str _) hw.1 ?_
        replace hw := (run_gd hw).2
        refine ⟨_, rfl, ?_⟩
        refine y_cases hw (fun hb hw => ?_) (fun hb hw => ?_)
        · refine y_ret ?_
          refine y_op ?_
          refine y_op ?_
          refine y_call ?_
          refine y_cons ?_
          refine y_var rfl ?_
          refine y_cons ?_
          refine y_op ?_
          refine y_var rfl ?_
          refine y_c ?_
          refine y_ixP d_told_ z hw (fun t18 w d19 hw => ?_)
          refine y_nil ?_
          refine ⟨amb, _, _, _, _, _, rfl, z, (LV.sub d_held_ mgE), d19, ?_⟩
          refine run_mono3 hw (fun t20 hw v H Ho e z d21 => ?_)
          replace d_held_ := LV.mo d_held_ e
          replace d_told_ := D.mo d_told_ e
          have es23 := (Same.refl _).trans e
          first | obtain rfl := d_int d21 | cases d_int d21
          refine y_call ?_
          refine y_cons ?_
          refine y_var rfl ?_
          refine y_cons ?_
          refine y_op ?_
          refine y_var rfl ?_
          refine y_c ?_
          refine y_ixP d_told_ z hw (fun t24 w d25 hw => ?_)
          refine y_nil ?_
          refine ⟨amb, _, _, _, _, _, rfl, z, (LV.sub d_held_ mgE), d25, ?_⟩
          refine run_mono3 hw (fun t26 hw v H Ho e z d27 => ?_)
          replace d_held_ := LV.mo d_held_ e
          replace d_told_ := D.mo d_told_ e
          have es29 := es23.trans e
          first | obtain rfl := d_int d27 | cases d_int d27
          refine y_i0 ?_
          refine y_c ?_
          refine y_ig hw.1 ?_
          replace hw := (run_gd hw).2
          exact (run_ret hw) _ _ _ es29 z (Dq.int _)
        · refine y_nxS ?_
          refine y_ret ?_
          refine y_op ?_
          refine y_op ?_
          refine y_call ?_
          refine y_cons ?_
          refine y_var rfl ?_
          refine y_cons ?_
          refine y_op ?_
          refine y_var rfl ?_
          refine y_c ?_
          refine y_ixP d_told_ z hw (fun t30 w d31 hw => ?_)
          refine y_nil ?_
          refine ⟨amb, _, _, _, _, _, rfl, z, (LV.sub d_held_ mgE), d31, ?_⟩
          refine run_mono3 hw (fun t32 hw v H Ho e z d33 => ?_)
          replace d_held_ := LV.mo d_held_ e
          replace d_told_ := D.mo d_told_ e
          have es35 := (Same.refl _).trans e
          first | obtain rfl := d_int d33 | cases d_int d33
          refine y_call ?_
          refine y_cons ?_
          refine y_var rfl ?_
          refine y_cons ?_
          refine y_op ?_
          refine y_var rfl ?_
          refine y_c ?_
          refine y_ixP d_told_ z hw (fun t36 w d37 hw => ?_)
          refine y_nil ?_
          refine ⟨amb, _, _, _, _, _, rfl, z, (LV.sub d_held_ mgE), d37, ?_⟩
          refine run_mono3 hw (fun t38 hw v H Ho e z d39 => ?_)
          replace d_held_ := LV.mo d_held_ e
          replace d_told_ := D.mo d_told_ e
          have es41 := es35.trans e
          first | obtain rfl := d_int d39 | cases d_int d39
          refine y_i0 ?_
          refine y_c ?_
          refine y_ig hw.1 ?_
          replace hw := (run_gd hw).2
          exact (run_ret hw) _ _ _ es41 z (Dq.int _)
abbrev sp_worth_now (K : PySem.W.Frag) (cl tb : Nat → Addr) : Sp := sp_worth_now_R 3 K cl tb
theorem ok_worth_now {f : Addr} {fd : FuncData} (F : Fun K "worth_now" "worth_now" s_worth_now f fd) (g : mg "worth_now" = some (.ref f)) (kp : PySem.W.keepIn K (.ref f) = true) (b : Binds K fd ["held", "told"] []) {tk_LETTERS : Tok} (g_LETTERS : mg "LETTERS" = some (.str ("abcdefgh" : Str) tk_LETTERS)) {tk_ROUND : Tok} (g_ROUND : mg "ROUND" = some (.int 1000 tk_ROUND)) :
    FnOk P w K mg base CX0 4 f fd ["held", "told"] (sp_worth_now K cl tb) := by
  have key : ∀ n, FnOk P w K mg base CX0 (1 + n) f fd ["held", "told"] (sp_worth_now_R n K cl tb) := fun n => by
    induction n with
    | zero => exact ⟨fun vs H Q E h => by obtain ⟨amb, Ho, v_held_, held_, v_told_, told_, rfl, z, d_held_, d_told_, hw⟩ := h; exact (show False from hw).elim, fun A outer s H args us vs Q E hr he hb hv h => by obtain ⟨amb, Ho, v_held_, held_, v_told_, told_, rfl, z, d_held_, d_told_, hw⟩ := h; exact (show False from hw).elim⟩
    | succ n ih => exact ok_worth_now_S F ⟨ih, g, kp, b⟩ g_LETTERS g_ROUND
  exact key 3
def sp_is_so (K : PySem.W.Frag) (cl tb : Nat → Addr) : Sp := fun vs H Q E => ∃ (amb : Grp) (Ho : Hp) (v0 : V) (x0 : (List Int)) (v1 : V) (x1 : Str) (v2 : V) (x2 : PyData) (v3 : V) (x3 : PyData), vs = [v0, v1, v2, v3] ∧ Zs amb H Ho ∧ LV K amb Ho v0 x0 ∧ Z.D K Ho v1 x1 ∧ Z.D K Ho v2 x2 ∧ Z.D K Ho v3 x3 ∧ (m_is_so x0 x1 x2 x3).run fun r => ∀ v H' Ho', Same Ho Ho' → Zs amb H' Ho' → Z.D K Ho' v r → Q v H'
abbrev s_is_so : Stmt := topS 20
theorem sc_is_so : FnScope ["held", "sign", "one", "other"] ["held", "sign", "one", "other"] (defScope s_is_so) := ⟨rfl, rfl, rfl, by decide +kernel, rfl, by decide +kernel, by decide +kernel⟩
theorem ok_is_so {f : Addr} {fd : FuncData} (F : Fun K "is_so" "is_so" s_is_so f fd) {f_worth_now : Addr} {fd_worth_now : FuncData} (c_worth_now : Cal P w K mg base CX0 "worth_now" ["held", "told"] 4 (sp_worth_now K cl tb) f_worth_now fd_worth_now) :
    FnOk P w K mg base CX0 5 f fd ["held", "sign", "one", "other"] (sp_is_so K cl tb) := by
  refine F.ok sc_is_so (fun vs H Q E h => ?_) (fun cdv A outer s H vs Q E hr h => ?_)
  · obtain ⟨amb, Ho, v_held_, held_, v_sign_, sign_, v_one_, one_, v_other_, other_, rfl, _⟩ := h
    rfl
  · obtain ⟨amb, Ho, v_held_, held_, v_sign_, sign_, v_one_, one_, v_other_, other_, rfl, z, d_held_, d_sign_, d_one_, d_other_, hw⟩ := h
    refine ⟨_, pss_cons (ps_if (pt_cmpR (op_eq) (pv 1) (pe_str) (nomark _)) (pss_cons (ps_ret (pe_cmpR (op_eq) (pe_call c_worth_now.ok (hr.mono (by decide)) (by rfl) c_worth_now.g c_worth_now.kp c_worth_now.b .nil pass0 (pa_cons (pv 0) (pa_cons (pv 2) (pa_nil)))) (pe_call c_worth_now.ok (hr.mono (by decide)) (by rfl) c_worth_now.g c_worth_now.kp c_worth_now.b .nil pass0 (pa_cons (pv 0) (pa_cons (pv 3) (pa_nil)))) (nomark _))) (pss_nil)) (pss_nil)) (pss_cons (ps_ret (pe_cmpR (op_lt) (pe_call c_worth_now.ok (hr.mono (by decide)) (by rfl) c_worth_now.g c_worth_now.kp c_worth_now.b .nil pass0 (pa_cons (pv 0) (pa_cons (pv 2) (pa_nil)))) (pe_call c_worth_now.ok (hr.mono (by decide)) (by rfl) c_worth_now.g c_worth_now.kp c_worth_now.b .nil pass0 (pa_cons (pv 0) (pa_cons (pv 3) (pa_nil)))) (nomark _))) (pss_nil)), ?_⟩
    obtain rfl := d_str d_sign_
    refine y_ifS ?_
    refine y_test ?_
    refine y_op ?_
    refine y_var rfl ?_
    refine y_c ?_
    refine y_eqs ?_
    refine ⟨_, rfl, ?_⟩
    refine y_cases hw (fun hb hw => ?_) (fun hb hw => ?_)
    · refine y_ret ?_
      refine y_op ?_
      refine y_call ?_
      refine y_cons ?_
      refine y_var rfl ?_
      refine y_cons ?_
      refine y_var rfl ?_
      refine y_nil ?_
      refine ⟨amb, _, _, _, _, _, rfl, z, (LV.sub d_held_ mgE), d_one_, ?_⟩
      refine run_mono3 hw (fun t1 hw v H Ho e z d2 => ?_)
      replace d_held_ := LV.mo d_held_ e
      replace d_one_ := D.mo d_one_ e
      replace d_other_ := D.mo d_other_ e
      have es4 := (Same.refl _).trans e
      first | obtain rfl := d_int d2 | cases d_int d2
      refine y_call ?_
      refine y_cons ?_
      refine y_var rfl ?_
      refine y_cons ?_
      refine y_var rfl ?_
      refine y_nil ?_
      refine ⟨amb, _, _, _, _, _, rfl, z, (LV.sub d_held_ mgE), d_other_, ?_⟩
      refine run_mono3 hw (fun t5 hw v H Ho e z d6 => ?_)
      replace d_held_ := LV.mo d_held_ e
      replace d_one_ := D.mo d_one_ e
      replace d_other_ := D.mo d_other_ e
      have es8 := es4.trans e
      first | obtain rfl := d_int d6 | cases d_int d6
      refine y_eqi ?_
      exact (run_ret hw) _ _ _ es8 z (Dq.bl _)
    · refine y_nxS ?_
      refine y_ret ?_
      refine y_op ?_
      refine y_call ?_
      refine y_cons ?_
      refine y_var rfl ?_
      refine y_cons ?_
      refine y_var rfl ?_
      refine y_nil ?_
      refine ⟨amb, _, _, _, _, _, rfl, z, (LV.sub d_held_ mgE), d_one_, ?_⟩
      refine run_mono3 hw (fun t9 hw v H Ho e z d10 => ?_)
      replace d_held_ := LV.mo d_held_ e
      replace d_one_ := D.mo d_one_ e
      replace d_other_ := D.mo d_other_ e
      have es12 := (Same.refl _).trans e
      first | obtain rfl := d_int d10 | cases d_int d10
      refine y_call ?_
      refine y_cons ?_
      refine y_var rfl ?_
      refine y_cons ?_
      refine y_var rfl ?_
      refine y_nil ?_
      refine ⟨amb, _, _, _, _, _, rfl, z, (LV.sub d_held_ mgE), d_other_, ?_⟩
      refine run_mono3 hw (fun t13 hw v H Ho e z d14 => ?_)
      replace d_held_ := LV.mo d_held_ e
      replace d_one_ := D.mo d_one_ e
      replace d_other_ := D.mo d_other_ e
      have es16 := es12.trans e
      first | obtain rfl := d_int d14 | cases d_int d14
      refine y_i0 ?_
      exact (run_ret hw) _ _ _ es16 z (Dq.bl _)
def sp_do_own (K : PySem.W.Frag) (cl tb : Nat → Addr) : Sp := fun vs H Q E => ∃ (amb : Grp) (Ho : Hp) (v0 : V) (x0 : ObHand) (g0 : Grp) (v1 : V) (x1 : PyData), vs = [v0, v1] ∧ Zs (g0 ++ amb) H Ho ∧ OC_Hand K Ho v0 x0 g0 ∧ Z.D K Ho v1 x1 ∧ (m_do_own x0 x1).run fun r => ∀ v h0 H' Ho', Same Ho Ho' → Zs (h0 ++ amb) H' Ho' → Z.D K Ho' v r.1 → OC_Hand K Ho' v0 r.2 h0 → Q v H'
abbrev s_do_own : Stmt := topS 22
theorem sc_do_own : FnScope ["hand", "row"] ["hand", "row"] (defScope s_do_own) := ⟨rfl, rfl, rfl, by decide +kernel, rfl, by decide +kernel, by decide +kernel⟩
theorem ok_do_own {f : Addr} {fd : FuncData} (F : Fun K "do_own" "do_own" s_do_own f fd) {q_Hand : Addr} {f_put_in : Addr} {fd_put_in : FuncData} (c_put_in : Cal P w K mg base CX0 "put_in" ["hand", "box", "number"] 1 (sp_put_in K cl tb) f_put_in fd_put_in) {f_worth_now : Addr} {fd_worth_now : FuncData} (c_worth_now : Cal P w K mg base CX0 "worth_now" ["held", "told"] 4 (sp_worth_now K cl tb) f_worth_now fd_worth_now) {f_is_so : Addr} {fd_is_so : FuncData} (c_is_so : Cal P w K mg base CX0 "is_so" ["held", "sign", "one", "other"] 5 (sp_is_so K cl tb) f_is_so fd_is_so) (cf_Hand : CF K q_Hand "Hand" ns_Hand) :
    FnOk P w K mg base CX0 6 f fd ["hand", "row"] (sp_do_own K cl tb) := by
  refine F.ok sc_do_own (fun vs H Q E h => ?_) (fun cdv A outer s H vs Q E hr h => ?_)
  · obtain ⟨amb, Ho, v_hand_, hand_, g_hand_, v_row_, row_, rfl, _⟩ := h
    rfl
  · obtain ⟨amb, Ho, v_hand_, hand_, g_hand_, v_row_, row_, rfl, z, d_hand_, d_row_, hw⟩ := h
    refine ⟨_, pss_cons (zps_fldaug (K := K) rfl (pv 0) pe_int in_add) (pss_cons (ps_if (pt_cmpR (zop_eqD (K := K) rfl hr.units) (pe_ix (zix_any (K := K) rfl) (pv 1) (pe_int) (fun _ _ => rfl)) (pe_str) (nomark _)) (pss_cons (ps_expr (pe_call c_put_in.ok (hr.mono (by decide)) (by rfl) c_put_in.g c_put_in.kp c_put_in.b .nil pass0 (pa_cons (pv 0) (pa_cons (pe_ix (zix_any (K := K) rfl) (pv 1) (pe_int) (fun _ _ => rfl)) (pa_cons (pe_call c_worth_now.ok (hr.mono (by decide)) (by rfl) c_worth_now.g c_worth_now.kp c_worth_now.b .nil pass0 (pa_cons (zpe_fld (K := K) rfl (pv 0) rfl) (pa_cons (pe_ix (zix_any (K := K) rfl) (pv 1) (pe_int) (fun _ _ => rfl)) (pa_nil)))) (pa_nil)))))) (pss_nil)) (pss_cons (ps_if (pt_cmpR (zop_eqD (K := K) rfl hr.units) (pe_ix (zix_any (K := K) rfl) (pv 1) (pe_int) (fun _ _ => rfl)) (pe_str) (nomark _)) (pss_cons (ps_expr (pe_bm PySem.F.plainAttrs_list PySem.F.slot_list_append PySem.F.type_list_append mt_append (zpe_fld (K := K) rfl (pv 0) rfl) (pa_cons (pe_call c_worth_now.ok (hr.mono (by decide)) (by rfl) c_worth_now.g c_worth_now.kp c_worth_now.b .nil pass0 (pa_cons (zpe_fld (K := K) rfl (pv 0) rfl) (pa_cons (pe_ix (zix_any (K := K) rfl) (pv 1) (pe_int) (fun _ _ => rfl)) (pa_nil)))) (pa_nil)))) (pss_nil)) (pss_cons (ps_if (pt_cmpR (zop_eqD (K := K) rfl hr.units) (pe_ix (zix_any (K := K) rfl) (pv 1) (pe_int) (fun _ _ => rfl)) (pe_str) (nomark _)) (pss_cons (zps_fld (K := K) rfl (pv 0) (pe_ix (zix_any (K := K) rfl) (pv 1) (pe_int) (fun _ _ => rfl)) rfl) (pss_nil)) (pss_cons (ps_if (pt_not (pt_val (pe_call c_is_so.ok (hr.mono (by decide)) (by rfl) c_is_so.g c_is_so.kp c_is_so.b .nil pass0 (pa_cons (zpe_fld (K := K) rfl (pv 0) rfl) (pa_cons (pe_ix (zix_any (K := K) rfl) (pv 1) (pe_int) (fun _ _ => rfl)) (pa_cons (pe_ix (zix_any (K := K) rfl) (pv 1) (pe_int) (fun _ _ => rfl)) (pa_cons (pe_ix (zix_any (K := K) rfl) (pv 1) (pe_int) (fun _ _ => rfl)) (pa_nil)))))))) (pss_cons (zps_fld (K := K) rfl (pv 0) (pe_ix (zix_any (K := K) rfl) (pv 1) (pe_int) (fun _ _ => rfl)) rfl) (pss_nil)) (pss_nil)) (pss_nil))) (pss_nil))) (pss_nil))) (pss_nil)), ?_⟩
    refine OC_Hand.op cf_Hand d_hand_ z (fun a_hand dx_hand v_hand__rows_ v_hand__at_ v_hand__held_ v_hand__spoken_ v_hand__way_ g_hand__held_ g_hand__spoken_ hv hg_hand d_hand__rows_ d_hand__at_ d_hand__held_ d_hand__spoken_ d_hand__way_ z => ?_)
    cases hv
    refine h_nmG (P := fun x => Z.D K Ho v_hand__rows_ x) hw d_hand__rows_ (fun hand__rows_ d_hand__rows_ hw => ?_)
    refine h_nmG (P := fun x => Z.D K Ho v_hand__at_ x) hw d_hand__at_ (fun hand__at_ d_hand__at_ hw => ?_)
    obtain rfl := d_int d_hand__at_
    refine h_nmG (P := fun x => OL K Ho v_hand__held_ x g_hand__held_) hw d_hand__held_ (fun hand__held_ d_hand__held_ hw => ?_)
    refine h_nmG (P := fun x => OL K Ho v_hand__spoken_ x g_hand__spoken_) hw d_hand__spoken_ (fun hand__spoken_ d_hand__spoken_ hw => ?_)
    refine h_nmG (P := fun x => Z.D K Ho v_hand__way_ x) hw d_hand__way_ (fun hand__way_ d_hand__way_ hw => ?_)
    obtain rfl := d_str d_hand__way_
    replace z : Zs ([(a_hand, HO.ins q_Hand dx_hand (ns_Hand.zip [v_hand__rows_, (V.int hand__at_), v_hand__held_, v_hand__spoken_, (V.str hand__way_)]))] ++ (g_hand__held_ ++ (g_hand__spoken_ ++ amb))) H Ho := z
    refine y_fldaug ?_
    refine y_var rfl ?_
    refine o_faug (j := 1) cf_Hand z rfl rfl (fun H z => ?_)
    refine h_nmG (P := fun x => Zs ([(a_hand, HO.ins q_Hand dx_hand (ns_Hand.zip (List.set [v_hand__rows_, (V.int hand__at_), v_hand__held_, v_hand__spoken_, (V.str hand__way_)] 1 (V.int x))))] ++ (g_hand__held_ ++ (g_hand__spoken_ ++ amb))) H Ho) hw z (fun hand__at_ z hw => ?_)
    replace z : Zs ([(a_hand, HO.ins q_Hand dx_hand (ns_Hand.zip [v_hand__rows_, (V.int hand__at_), v_hand__held_, v_hand__spoken_, (V.str hand__way_)]))] ++ (g_hand__held_ ++ (g_hand__spoken_ ++ amb))) H Ho := z
    refine y_ifS ?_
    refine y_test ?_
    refine y_op ?_
    refine y_op ?_
    refine y_var rfl ?_
    refine y_c ?_
    refine y_ixP d_row_ z hw (fun t2 w d3 hw => ?_)
    refine y_c ?_
    refine y_eqD (D.mo d3 z.le) (Dq.str _) hw.1 ?_
    replace hw := (run_gd hw).2
    refine ⟨_, rfl, ?_⟩
    refine y_cases hw (fun hb hw => ?_) (fun hb hw => ?_)
    · refine y_drop ?_
      refine y_call ?_
      refine y_cons ?_
      refine y_var rfl ?_
      refine y_cons ?_
      refine y_op ?_
      refine y_var rfl ?_
      refine y_c ?_
      refine y_ixP d_row_ z hw (fun t4 w d5 hw => ?_)
      refine y_fr (β := Str) d5 hw (fun t6 d7 hw => ?_)
      first | obtain rfl := d_str d7 | cases d_str d7
      refine y_cons ?_
      refine y_call ?_
      refine y_cons ?_
      refine y_fld ?_
      refine y_var rfl ?_
      refine o_fld (i := 2) cf_Hand mg0 z rfl rfl ?_
      refine y_cons ?_
      refine y_op ?_
      refine y_var rfl ?_
      refine y_c ?_
      refine y_ixP d_row_ z hw (fun t8 w d9 hw => ?_)
      refine y_nil ?_
      refine ⟨([(a_hand, HO.ins q_Hand dx_hand (ns_Hand.zip [v_hand__rows_, (V.int hand__at_), v_hand__held_, v_hand__spoken_, (V.str hand__way_)]))] ++ (g_hand__held_ ++ (g_hand__spoken_ ++ amb))), _, _, _, _, _, rfl, z, (OL.lv d_hand__held_ (mgS mg0)), d9, ?_⟩
      refine run_mono3 hw (fun t10 hw v H Ho e z d11 => ?_)
      replace d_hand__held_ := OL.mo d_hand__held_ e
      replace d_hand__rows_ := D.mo d_hand__rows_ e
      replace d_hand__spoken_ := OL.mo d_hand__spoken_ e
      replace d_row_ := D.mo d_row_ e
      have es13 := (Same.refl _).trans e
      first | obtain rfl := d_int d11 | cases d_int d11
      refine y_nil ?_
      refine OC_Hand.cl (x := (⟨hand__rows_, hand__at_, hand__held_, hand__spoken_, hand__way_⟩ : ObHand)) cf_Hand d_hand__rows_ (Dq.int _) d_hand__held_ d_hand__spoken_ (Dq.str _) z (fun g14 d15 z => ?_)
      refine ⟨amb, _, _, _, _, _, _, _, _, rfl, z, d15, (Dq.str _), (Dq.int _), ?_⟩
      refine run_mono2 hw (fun t16 hand_ hw v g_hand_ H Ho e z d17 d_hand_ => ?_)
      replace d17 : Z.D K Ho v t16 := d17
      replace d_hand_ : OC_Hand K Ho (V.ref a_hand) hand_ g_hand_ := d_hand_
      replace d_row_ := D.mo d_row_ e
      have es19 := es13.trans e
      cases d17
      refine OC_Hand.op cf_Hand d_hand_ z (fun a20 dx20 v_hand__rows_ v_hand__at_ v_hand__held_ v_hand__spoken_ v_hand__way_ g_hand__held_ g_hand__spoken_ hv hg_20 d_hand__rows_ d_hand__at_ d_hand__held_ d_hand__spoken_ d_hand__way_ z => ?_)
      cases hv
      refine h_nmG (P := fun x => Z.D K Ho v_hand__rows_ x) hw d_hand__rows_ (fun hand__rows_ d_hand__rows_ hw => ?_)
      refine h_nmG (P := fun x => Z.D K Ho v_hand__at_ x) hw d_hand__at_ (fun hand__at_ d_hand__at_ hw => ?_)
      obtain rfl := d_int d_hand__at_
      refine h_nmG (P := fun x => OL K Ho v_hand__held_ x g_hand__held_) hw d_hand__held_ (fun hand__held_ d_hand__held_ hw => ?_)
      refine h_nmG (P := fun x => OL K Ho v_hand__spoken_ x g_hand__spoken_) hw d_hand__spoken_ (fun hand__spoken_ d_hand__spoken_ hw => ?_)
      refine h_nmG (P := fun x => Z.D K Ho v_hand__way_ x) hw d_hand__way_ (fun hand__way_ d_hand__way_ hw => ?_)
      obtain rfl := d_str d_hand__way_
      replace z : Zs ([(a_hand, HO.ins q_Hand dx20 (ns_Hand.zip [v_hand__rows_, (V.int hand__at_), v_hand__held_, v_hand__spoken_, (V.str hand__way_)]))] ++ (g_hand__held_ ++ (g_hand__spoken_ ++ amb))) H Ho := z
      refine y_nxS ?_
      refine OC_Hand.cl (x := (⟨hand__rows_, hand__at_, hand__held_, hand__spoken_, hand__way_⟩ : ObHand)) cf_Hand d_hand__rows_ (Dq.int _) d_hand__held_ d_hand__spoken_ (Dq.str _) z (fun g21 d22 z => ?_)
      exact (run_ret hw) _ _ _ _ es19 z Dq.non d22
    · refine y_ifS ?_
      refine y_test ?_
      refine y_op ?_
      refine y_op ?_
      refine y_var rfl ?_
      refine y_c ?_
      refine y_ixP d_row_ z hw (fun t23 w d24 hw => ?_)
      refine y_c ?_
      refine y_eqD (D.mo d24 z.le) (Dq.str _) hw.1 ?_
      replace hw := (run_gd hw).2
      refine ⟨_, rfl, ?_⟩
      refine y_cases hw (fun hb hw => ?_) (fun hb hw => ?_)
      · refine y_drop ?_
        refine y_bm ?_
        refine y_fld ?_
        refine y_var rfl ?_
        refine o_fld (i := 3) cf_Hand mg0 z rfl rfl ?_
        refine g_tyL (OL.lv d_hand__spoken_ (mgS (mgS mg0))) z ?_
        refine y_cons ?_
        refine y_call ?_
        refine y_cons ?_
        refine y_fld ?_
        refine y_var rfl ?_
        refine o_fld (i := 2) cf_Hand mg0 z rfl rfl ?_
        refine y_cons ?_
        refine y_op ?_
        refine y_var rfl ?_
        refine y_c ?_
        refine y_ixP d_row_ z hw (fun t25 w d26 hw => ?_)
        refine y_nil ?_
        refine ⟨([(a_hand, HO.ins q_Hand dx_hand (ns_Hand.zip [v_hand__rows_, (V.int hand__at_), v_hand__held_, v_hand__spoken_, (V.str hand__way_)]))] ++ (g_hand__held_ ++ (g_hand__spoken_ ++ amb))), _, _, _, _, _, rfl, z, (OL.lv d_hand__held_ (mgS mg0)), d26, ?_⟩
        refine run_mono3 hw (fun t27 hw v H Ho e z d28 => ?_)
        replace d_hand__held_ := OL.mo d_hand__held_ e
        replace d_hand__rows_ := D.mo d_hand__rows_ e
        replace d_hand__spoken_ := OL.mo d_hand__spoken_ e
        replace d_row_ := D.mo d_row_ e
        have es30 := (Same.refl _).trans e
        first | obtain rfl := d_int d28 | cases d_int d28
        refine y_nil ?_
        replace z : Zs (g_hand__spoken_ ++ ([(a_hand, HO.ins q_Hand dx_hand (ns_Hand.zip [v_hand__rows_, (V.int hand__at_), v_hand__held_, v_hand__spoken_, (V.str hand__way_)]))] ++ (g_hand__held_ ++ amb))) _ _ := z.go [[(a_hand, HO.ins q_Hand dx_hand (ns_Hand.zip [v_hand__rows_, (V.int hand__at_), v_hand__held_, v_hand__spoken_, (V.str hand__way_)]))], g_hand__held_, g_hand__spoken_] amb [2, 0, 1]
        refine g_app z d_hand__spoken_ (Dq.int _) hw (fun hand__spoken_ g_hand__spoken_ H z d_hand__spoken_ hw => ?_)
        refine y_nxS ?_
        refine y_nxS ?_
        replace z : Zs ([(a_hand, HO.ins q_Hand dx_hand (ns_Hand.zip [v_hand__rows_, (V.int hand__at_), v_hand__held_, v_hand__spoken_, (V.str hand__way_)]))] ++ (g_hand__held_ ++ (g_hand__spoken_ ++ amb))) _ _ := z.go [g_hand__spoken_, [(a_hand, HO.ins q_Hand dx_hand (ns_Hand.zip [v_hand__rows_, (V.int hand__at_), v_hand__held_, v_hand__spoken_, (V.str hand__way_)]))], g_hand__held_] amb [1, 2, 0]
        refine OC_Hand.cl (x := (⟨hand__rows_, hand__at_, hand__held_, hand__spoken_, hand__way_⟩ : ObHand)) cf_Hand d_hand__rows_ (Dq.int _) d_hand__held_ d_hand__spoken_ (Dq.str _) z (fun g31 d32 z => ?_)
        exact (run_ret hw) _ _ _ _ es30 z Dq.non d32
      · refine y_ifS ?_
        refine y_test ?_
        refine y_op ?_
        refine y_op ?_
        refine y_var rfl ?_
        refine y_c ?_
        refine y_ixP d_row_ z hw (fun t33 w d34 hw => ?_)
        refine y_c ?_
        refine y_eqD (D.mo d34 z.le) (Dq.str _) hw.1 ?_
        replace hw := (run_gd hw).2
        refine ⟨_, rfl, ?_⟩
        refine y_cases hw (fun hb hw => ?_) (fun hb hw => ?_)
        · refine y_sfld ?_
          refine y_op ?_
          refine y_var rfl ?_
          refine y_c ?_
          refine y_ixP d_row_ z hw (fun t35 w d36 hw => ?_)
          refine y_fr (β := Int) d36 hw (fun t37 d38 hw => ?_)
          first | obtain rfl := d_int d38 | cases d_int d38
          obtain ⟨vo39, z⟩ : ∃ vo39, Zs ([(a_hand, HO.ins q_Hand dx_hand (ns_Hand.zip [v_hand__rows_, vo39, v_hand__held_, v_hand__spoken_, (V.str hand__way_)]))] ++ (g_hand__held_ ++ (g_hand__spoken_ ++ amb))) H Ho := ⟨_, z⟩
          refine l_i hw (fun hand__at_ hw => ?_)
          refine y_var rfl ?_
          refine o_sfld (i := 1) cf_Hand z rfl (Nat.le_of_ble_eq_true rfl) (fun H z => ?_)
          replace z : Zs ([(a_hand, HO.ins q_Hand dx_hand (ns_Hand.zip [v_hand__rows_, (V.int hand__at_), v_hand__held_, v_hand__spoken_, (V.str hand__way_)]))] ++ (g_hand__held_ ++ (g_hand__spoken_ ++ amb))) H Ho := z
          refine y_nxS ?_
          refine y_nxS ?_
          refine y_nxS ?_
          refine OC_Hand.cl (x := (⟨hand__rows_, hand__at_, hand__held_, hand__spoken_, hand__way_⟩ : ObHand)) cf_Hand d_hand__rows_ (Dq.int _) d_hand__held_ d_hand__spoken_ (Dq.str _) z (fun g40 d41 z => ?_)
          exact (run_ret hw) _ _ _ _ (Same.refl _) z Dq.non d41
        · refine y_ifS ?_
          refine y_not ?_
          refine y_tB ?_
          refine y_call ?_
          refine y_cons ?_
          refine y_fld ?_
          refine y_var rfl ?_
          refine o_fld (i := 2) cf_Hand mg0 z rfl rfl ?_
          refine y_cons ?_
          refine y_op ?_
          refine y_var rfl ?_
          refine y_c ?_
          refine y_ixP d_row_ z hw (fun t42 w d43 hw => ?_)
          refine y_fr (β := Str) d43 hw (fun t44 d45 hw => ?_)
          first | obtain rfl := d_str d45 | cases d_str d45
          refine y_cons ?_
          refine y_op ?_
          refine y_var rfl ?_
          refine y_c ?_
          refine y_ixP d_row_ z hw (fun t46 w d47 hw => ?_)
          refine y_cons ?_
          refine y_op ?_
          refine y_var rfl ?_
          refine y_c ?_
          refine y_ixP d_row_ z hw (fun t48 w d49 hw => ?_)
          refine y_nil ?_
          refine ⟨([(a_hand, HO.ins q_Hand dx_hand (ns_Hand.zip [v_hand__rows_, (V.int hand__at_), v_hand__held_, v_hand__spoken_, (V.str hand__way_)]))] ++ (g_hand__held_ ++ (g_hand__spoken_ ++ amb))), _, _, _, _, _, _, _, _, _, rfl, z, (OL.lv d_hand__held_ (mgS mg0)), (Dq.str _), d47, d49, ?_⟩
          refine run_mono3 hw (fun t50 hw v H Ho e z d51 => ?_)
          replace d_hand__held_ := OL.mo d_hand__held_ e
          replace d_hand__rows_ := D.mo d_hand__rows_ e
          replace d_hand__spoken_ := OL.mo d_hand__spoken_ e
          replace d_row_ := D.mo d_row_ e
          have es53 := (Same.refl _).trans e
          first | obtain rfl := d_bool d51 | cases d_bool d51
          refine ⟨_, rfl, ?_⟩
          refine y_cases hw (fun hb hw => ?_) (fun hb hw => ?_)
          · refine y_sfld ?_
            refine y_op ?_
            refine y_var rfl ?_
            refine y_c ?_
            refine y_ixP d_row_ z hw (fun t54 w d55 hw => ?_)
            refine y_fr (β := Int) d55 hw (fun t56 d57 hw => ?_)
            first | obtain rfl := d_int d57 | cases d_int d57
            obtain ⟨vo58, z⟩ : ∃ vo58, Zs ([(a_hand, HO.ins q_Hand dx_hand (ns_Hand.zip [v_hand__rows_, vo58, v_hand__held_, v_hand__spoken_, (V.str hand__way_)]))] ++ (g_hand__held_ ++ (g_hand__spoken_ ++ amb))) H Ho := ⟨_, z⟩
            refine l_i hw (fun hand__at_ hw => ?_)
            refine y_var rfl ?_
            refine o_sfld (i := 1) cf_Hand z rfl (Nat.le_of_ble_eq_true rfl) (fun H z => ?_)
            replace z : Zs ([(a_hand, HO.ins q_Hand dx_hand (ns_Hand.zip [v_hand__rows_, (V.int hand__at_), v_hand__held_, v_hand__spoken_, (V.str hand__way_)]))] ++ (g_hand__held_ ++ (g_hand__spoken_ ++ amb))) H Ho := z
            refine y_nxS ?_
            refine y_nxS ?_
            refine y_nxS ?_
            refine y_nxS ?_
            refine OC_Hand.cl (x := (⟨hand__rows_, hand__at_, hand__held_, hand__spoken_, hand__way_⟩ : ObHand)) cf_Hand d_hand__rows_ (Dq.int _) d_hand__held_ d_hand__spoken_ (Dq.str _) z (fun g59 d60 z => ?_)
            exact (run_ret hw) _ _ _ _ es53 z Dq.non d60
          · refine y_nxS ?_
            refine y_nxS ?_
            refine y_nxS ?_
            refine y_nxS ?_
            refine OC_Hand.cl (x := (⟨hand__rows_, hand__at_, hand__held_, hand__spoken_, hand__way_⟩ : ObHand)) cf_Hand d_hand__rows_ (Dq.int _) d_hand__held_ d_hand__spoken_ (Dq.str _) z (fun g61 d62 z => ?_)
            exact (run_ret hw) _ _ _ _ es53 z Dq.non d62
def sp_lead_on (K : PySem.W.Frag) (cl tb : Nat → Addr) : Sp := fun vs H Q E => ∃ (amb : Grp) (Ho : Hp) (v0 : V) (x0 : ObHand) (g0 : Grp), vs = [v0] ∧ Zs (g0 ++ amb) H Ho ∧ OC_Hand K Ho v0 x0 g0 ∧ (m_lead_on x0).run fun r => ∀ v h0 H' Ho', Same Ho Ho' → Zs (h0 ++ amb) H' Ho' → Z.D K Ho' v r.1 → OC_Hand K Ho' v0 r.2 h0 → Q v H'
abbrev s_lead_on : Stmt := topS 23
theorem sc_lead_on : FnScope ["hand", "done", "row"] ["hand"] (defScope s_lead_on) := ⟨rfl, rfl, rfl, by decide +kernel, rfl, by decide +kernel, by decide +kernel⟩
theorem ok_lead_on {f : Addr} {fd : FuncData} (F : Fun K "lead_on" "lead_on" s_lead_on f fd) {q_Hand : Addr} {f_do_own : Addr} {fd_do_own : FuncData} (c_do_own : Cal P w K mg base CX0 "do_own" ["hand", "row"] 6 (sp_do_own K cl tb) f_do_own fd_do_own) (m_range : mg "range" = none) (m_len : mg "len" = none) {tk_MOST_OWN : Tok} (g_MOST_OWN : mg "MOST_OWN" = some (.int 60 tk_MOST_OWN)) (cf_Hand : CF K q_Hand "Hand" ns_Hand) :
    FnOk P w K mg base CX0 7 f fd ["hand"] (sp_lead_on K cl tb) := by
  refine F.ok sc_lead_on (fun vs H Q E h => ?_) (fun cdv A outer s H vs Q E hr h => ?_)
  · obtain ⟨amb, Ho, v_hand_, hand_, g_hand_, rfl, _⟩ := h
    rfl
  · obtain ⟨amb, Ho, v_hand_, hand_, g_hand_, rfl, z, d_hand_, hw⟩ := h
    refine ⟨_, pss_cons (ps_for PassesOwn.never rfl (pi_range1 (by rfl) m_range (pa_cons (pe_op op_add (pe_glob (v := .int 60) rfl g_MOST_OWN ⟨_, rfl⟩) (pe_int)) (pa_nil))) (pg_name (i := 1) sc_lead_on.nd rfl (Or.inl rfl)) (pss_cons (ps_if (pt_cmpR (op_eq) (zpe_fld (K := K) rfl (pv 0) rfl) (pe_callB (zlen (K := K) rfl) (by rfl) m_len (by decide +kernel) (pa_cons (zpe_fld (K := K) rfl (pv 0) rfl) (pa_nil))) (nomark _)) (pss_cons (zps_fld (K := K) rfl (pv 0) (pe_str) rfl) (pss_cons (ps_retN) (pss_nil))) (pss_nil)) (pss_cons (ps_set (i := 2) sc_lead_on.nd rfl (Or.inl rfl) (pe_ix (zix_list (K := K) rfl) (zpe_fld (K := K) rfl (pv 0) rfl) (zpe_fld (K := K) rfl (pv 0) rfl) (fun _ _ => rfl))) (pss_cons (ps_if (pt_cmpR ((zop_inT (K := K) rfl)) (pe_ix (zix_any (K := K) rfl) (pv 2) (pe_int) (fun _ _ => rfl)) (pe_tup (pa_cons (pe_str) (pa_cons (pe_str) (pa_cons (pe_str) (pa_nil))))) rfl) (pss_cons (zps_fld (K := K) rfl (pv 0) (pe_str) rfl) (pss_cons (ps_retN) (pss_nil))) (pss_nil)) (pss_cons (ps_if (pt_cmpR (op_lt) (pv 1) (pe_glob (v := .int 60) rfl g_MOST_OWN ⟨_, rfl⟩) (nomark _)) (pss_cons (ps_expr (pe_call c_do_own.ok (hr.mono (by decide)) (by rfl) c_do_own.g c_do_own.kp c_do_own.b .nil pass0 (pa_cons (pv 0) (pa_cons (pv 2) (pa_nil))))) (pss_nil)) (pss_nil)) (pss_nil)))))) (pss_cons (zps_fld (K := K) rfl (pv 0) (pe_str) rfl) (pss_nil)), ?_⟩
    refine OC_Hand.op cf_Hand d_hand_ z (fun a_hand dx_hand v_hand__rows_ v_hand__at_ v_hand__held_ v_hand__spoken_ v_hand__way_ g_hand__held_ g_hand__spoken_ hv hg_hand d_hand__rows_ d_hand__at_ d_hand__held_ d_hand__spoken_ d_hand__way_ z => ?_)
    cases hv
    refine h_nmG (P := fun x => Z.D K Ho v_hand__rows_ x) hw d_hand__rows_ (fun hand__rows_ d_hand__rows_ hw => ?_)
    refine h_nmG (P := fun x => Z.D K Ho v_hand__at_ x) hw d_hand__at_ (fun hand__at_ d_hand__at_ hw => ?_)
    obtain rfl := d_int d_hand__at_
    refine h_nmG (P := fun x => OL K Ho v_hand__held_ x g_hand__held_) hw d_hand__held_ (fun hand__held_ d_hand__held_ hw => ?_)
    refine h_nmG (P := fun x => OL K Ho v_hand__spoken_ x g_hand__spoken_) hw d_hand__spoken_ (fun hand__spoken_ d_hand__spoken_ hw => ?_)
    refine h_nmG (P := fun x => Z.D K Ho v_hand__way_ x) hw d_hand__way_ (fun hand__way_ d_hand__way_ hw => ?_)
    obtain rfl := d_str d_hand__way_
    replace z : Zs ([(a_hand, HO.ins q_Hand dx_hand (ns_Hand.zip [v_hand__rows_, (V.int hand__at_), v_hand__held_, v_hand__spoken_, (V.str hand__way_)]))] ++ (g_hand__held_ ++ (g_hand__spoken_ ++ amb))) H Ho := z
    refine OC_Hand.cl (x := (⟨hand__rows_, hand__at_, hand__held_, hand__spoken_, hand__way_⟩ : ObHand)) cf_Hand d_hand__rows_ (Dq.int _) d_hand__held_ d_hand__spoken_ (Dq.str _) z (fun g2 d3 z => ?_)
    refine h_nmG (P := fun x => OC_Hand K Ho (V.ref a_hand) x g2) hw d3 (fun hand_ d_hand_ hw => ?_)
    refine y_for ?_
    refine k_iR1 ?_
    refine y_cons ?_
    refine y_op ?_
    refine y_c ?_
    refine y_c ?_
    refine y_i0 ?_
    refine y_nil ?_
    refine k_srcR1 (K := K) (Ho := Ho) hw.1 (fun J T => ?_)
    replace hw := (run_gd hw).2
    refine y_forC T hw (fun (s : ObHand) (σ : L2.St) (H Ho : Hp) => ∃ (g_hand_ : Grp) (y_done_ : Option V) (y_row_ : Option V), σ = [some (V.ref a_hand), y_done_, y_row_] ∧ Zs (g_hand_ ++ amb) H Ho ∧ OC_Hand K Ho (V.ref a_hand) s g_hand_) ⟨_, _, _, rfl, z, d_hand_⟩ ?_ ?_ ?_ ?_
    · intro s σ H Ho hI
      obtain ⟨g_hand_, y_done_, y_row_, rfl, z, d_hand_⟩ := hI
      exact ⟨_, z, mgN⟩
    · intro s σ H Ho H2 Ho2 hI e t
      obtain ⟨g_hand_, y_done_, y_row_, rfl, z, d_hand_⟩ := hI
      exact ⟨_, _, _, rfl, t _ z, OC_Hand.mo d_hand_ e⟩
    · intro done_ v_done_ s σ H Ho N B e hI d_done_ hw
      obtain ⟨hand_, rfl⟩ : ∃ q, q = s := ⟨_, rfl⟩
      obtain ⟨g_hand_, y_done_, y_row_, rfl, z, d_hand_⟩ := hI
      have es4 := (Same.refl _).trans e
      obtain rfl := d_int d_done_
      refine y_gname (σ' := [some (V.ref a_hand), some (V.int done_), y_row_]) rfl ?_
      refine OC_Hand.op cf_Hand d_hand_ z (fun a5 dx5 v_hand__rows_ v_hand__at_ v_hand__held_ v_hand__spoken_ v_hand__way_ g_hand__held_ g_hand__spoken_ hv hg_5 d_hand__rows_ d_hand__at_ d_hand__held_ d_hand__spoken_ d_hand__way_ z => ?_)
      cases hv
      refine h_nmG (P := fun x => Z.D K Ho v_hand__rows_ x) hw d_hand__rows_ (fun hand__rows_ d_hand__rows_ hw => ?_)
      refine h_nmG (P := fun x => Z.D K Ho v_hand__at_ x) hw d_hand__at_ (fun hand__at_ d_hand__at_ hw => ?_)
      obtain rfl := d_int d_hand__at_
      refine h_nmG (P := fun x => OL K Ho v_hand__held_ x g_hand__held_) hw d_hand__held_ (fun hand__held_ d_hand__held_ hw => ?_)
      refine h_nmG (P := fun x => OL K Ho v_hand__spoken_ x g_hand__spoken_) hw d_hand__spoken_ (fun hand__spoken_ d_hand__spoken_ hw => ?_)
      refine h_nmG (P := fun x => Z.D K Ho v_hand__way_ x) hw d_hand__way_ (fun hand__way_ d_hand__way_ hw => ?_)
      obtain rfl := d_str d_hand__way_
      replace z : Zs ([(a_hand, HO.ins q_Hand dx5 (ns_Hand.zip [v_hand__rows_, (V.int hand__at_), v_hand__held_, v_hand__spoken_, (V.str hand__way_)]))] ++ (g_hand__held_ ++ (g_hand__spoken_ ++ amb))) H Ho := z
      refine y_ifS ?_
      refine y_test ?_
      refine y_op ?_
      refine y_fld ?_
      refine y_var rfl ?_
      refine o_fld (i := 1) cf_Hand mg0 z rfl rfl ?_
      refine y_cb ?_
      refine y_cons ?_
      refine y_fld ?_
      refine y_var rfl ?_
      refine o_fld (i := 0) cf_Hand mg0 z rfl rfl ?_
      refine y_nil ?_
      refine y_len (LV.of d_hand__rows_) z ?_
      refine y_eqi ?_
      refine ⟨_, rfl, ?_⟩
      refine y_cases hw (fun hb hw => ?_) (fun hb hw => ?_)
      · refine y_sfld ?_
        refine y_c ?_
        obtain ⟨vo6, z⟩ : ∃ vo6, Zs ([(a_hand, HO.ins q_Hand dx5 (ns_Hand.zip [v_hand__rows_, (V.int hand__at_), v_hand__held_, v_hand__spoken_, vo6]))] ++ (g_hand__held_ ++ (g_hand__spoken_ ++ amb))) H Ho := ⟨_, z⟩
        refine l_s hw (fun hand__way_ hw => ?_)
        refine y_var rfl ?_
        refine o_sfld (i := 4) cf_Hand z rfl (Nat.le_of_ble_eq_true rfl) (fun H z => ?_)
        replace z : Zs ([(a_hand, HO.ins q_Hand dx5 (ns_Hand.zip [v_hand__rows_, (V.int hand__at_), v_hand__held_, v_hand__spoken_, (V.str hand__way_)]))] ++ (g_hand__held_ ++ (g_hand__spoken_ ++ amb))) H Ho := z
        refine y_retN ?_
        refine OC_Hand.cl (x := (⟨hand__rows_, hand__at_, hand__held_, hand__spoken_, hand__way_⟩ : ObHand)) cf_Hand d_hand__rows_ (Dq.int _) d_hand__held_ d_hand__spoken_ (Dq.str _) z (fun g7 d8 z => ?_)
        exact (ctl_rt (run_ret hw)) _ _ _ _ (es4.trans (Same.refl _)) z Dq.non d8
      · refine y_nxS ?_
        refine l_asg (fun v => [_, _, some v]) (fun _ => rfl) ?_
        refine y_op ?_
        refine y_fld ?_
        refine y_var rfl ?_
        refine o_fld (i := 0) cf_Hand mg0 z rfl rfl ?_
        refine y_fld ?_
        refine y_var rfl ?_
        refine o_fld (i := 1) cf_Hand mg0 z rfl rfl ?_
        refine y_ixL (LV.of d_hand__rows_) z hw (fun t9 w d10 hw => ?_)
        refine l_d (K := K) (Ho := Ho) hw d10 (fun row_ v_row_ d_row_ hw => ?_)
        refine y_ifS ?_
        refine y_test ?_
        refine y_op ?_
        refine y_op ?_
        refine y_var rfl ?_
        refine y_c ?_
        refine y_ixP d_row_ z hw (fun t11 w d12 hw => ?_)
        refine k_tup ?_
        refine y_cons ?_
        refine y_c ?_
        refine y_cons ?_
        refine y_c ?_
        refine y_cons ?_
        refine y_c ?_
        refine y_nil ?_
        refine k_tupk (K := K) (x := (⟨("load" : Str), ("store" : Str), ("swap" : Str)⟩ : (P3 Str Str Str))) z (by show 3 ≤ sizeLine; decide) _ rfl (DqAll.cons (Dq.str _) (DqAll.cons (Dq.str _) (DqAll.cons (Dq.str _) DqAll.nil))) (fun p H Ho e z d13 => ?_)
        replace d_hand__held_ := OL.mo d_hand__held_ e
        replace d_hand__rows_ := D.mo d_hand__rows_ e
        replace d_hand__spoken_ := OL.mo d_hand__spoken_ e
        replace d_row_ := D.mo d_row_ e
        replace d12 := D.mo d12 e
        have es14 := (Same.refl _).trans e
        refine y_fr (β := Str) d12 hw (fun t15 d16 hw => ?_)
        first | obtain rfl := d_str d16 | cases d_str d16
        refine y_inT (ss := ([("load" : Str), ("store" : Str), ("swap" : Str)] : List Str)) d13 rfl z ?_
        refine ⟨_, rfl, ?_⟩
        refine y_cases hw (fun hb hw => ?_) (fun hb hw => ?_)
        · refine y_sfld ?_
          refine y_c ?_
          obtain ⟨vo17, z⟩ : ∃ vo17, Zs ([(a_hand, HO.ins q_Hand dx5 (ns_Hand.zip [v_hand__rows_, (V.int hand__at_), v_hand__held_, v_hand__spoken_, vo17]))] ++ (g_hand__held_ ++ (g_hand__spoken_ ++ amb))) H Ho := ⟨_, z⟩
          refine l_s hw (fun hand__way_ hw => ?_)
          refine y_var rfl ?_
          refine o_sfld (i := 4) cf_Hand z rfl (Nat.le_of_ble_eq_true rfl) (fun H z => ?_)
          replace z : Zs ([(a_hand, HO.ins q_Hand dx5 (ns_Hand.zip [v_hand__rows_, (V.int hand__at_), v_hand__held_, v_hand__spoken_, (V.str hand__way_)]))] ++ (g_hand__held_ ++ (g_hand__spoken_ ++ amb))) H Ho := z
          refine y_retN ?_
          refine OC_Hand.cl (x := (⟨hand__rows_, hand__at_, hand__held_, hand__spoken_, hand__way_⟩ : ObHand)) cf_Hand d_hand__rows_ (Dq.int _) d_hand__held_ d_hand__spoken_ (Dq.str _) z (fun g18 d19 z => ?_)
          exact (ctl_rt (run_ret hw)) _ _ _ _ (es4.trans es14) z Dq.non d19
        · refine y_nxS ?_
          refine y_ifS ?_
          refine y_test ?_
          refine y_op ?_
          refine y_var rfl ?_
          refine y_c ?_
          refine y_i0 ?_
          refine ⟨_, rfl, ?_⟩
          refine y_cases hw (fun hb hw => ?_) (fun hb hw => ?_)
          · refine y_drop ?_
            refine y_call ?_
            refine y_cons ?_
            refine y_var rfl ?_
            refine y_cons ?_
            refine y_var rfl ?_
            refine y_nil ?_
            refine OC_Hand.cl (x := (⟨hand__rows_, hand__at_, hand__held_, hand__spoken_, hand__way_⟩ : ObHand)) cf_Hand d_hand__rows_ (Dq.int _) d_hand__held_ d_hand__spoken_ (Dq.str _) z (fun g20 d21 z => ?_)
            refine ⟨amb, _, _, _, _, _, _, rfl, z, d21, d_row_, ?_⟩
            refine run_mono2 hw (fun t22 hand_ hw v g_hand_ H Ho e z d23 d_hand_ => ?_)
            replace d23 : Z.D K Ho v t22 := d23
            replace d_hand_ : OC_Hand K Ho (V.ref a_hand) hand_ g_hand_ := d_hand_
            replace d_row_ := D.mo d_row_ e
            have es25 := es14.trans e
            cases d23
            refine OC_Hand.op cf_Hand d_hand_ z (fun a26 dx26 v_hand__rows_ v_hand__at_ v_hand__held_ v_hand__spoken_ v_hand__way_ g_hand__held_ g_hand__spoken_ hv hg_26 d_hand__rows_ d_hand__at_ d_hand__held_ d_hand__spoken_ d_hand__way_ z => ?_)
            cases hv
            refine h_nmG (P := fun x => Z.D K Ho v_hand__rows_ x) hw d_hand__rows_ (fun hand__rows_ d_hand__rows_ hw => ?_)
            refine h_nmG (P := fun x => Z.D K Ho v_hand__at_ x) hw d_hand__at_ (fun hand__at_ d_hand__at_ hw => ?_)
            obtain rfl := d_int d_hand__at_
            refine h_nmG (P := fun x => OL K Ho v_hand__held_ x g_hand__held_) hw d_hand__held_ (fun hand__held_ d_hand__held_ hw => ?_)
            refine h_nmG (P := fun x => OL K Ho v_hand__spoken_ x g_hand__spoken_) hw d_hand__spoken_ (fun hand__spoken_ d_hand__spoken_ hw => ?_)
            refine h_nmG (P := fun x => Z.D K Ho v_hand__way_ x) hw d_hand__way_ (fun hand__way_ d_hand__way_ hw => ?_)
            obtain rfl := d_str d_hand__way_
            replace z : Zs ([(a_hand, HO.ins q_Hand dx26 (ns_Hand.zip [v_hand__rows_, (V.int hand__at_), v_hand__held_, v_hand__spoken_, (V.str hand__way_)]))] ++ (g_hand__held_ ++ (g_hand__spoken_ ++ amb))) H Ho := z
            refine y_nxS ?_
            refine OC_Hand.cl (x := (⟨hand__rows_, hand__at_, hand__held_, hand__spoken_, hand__way_⟩ : ObHand)) cf_Hand d_hand__rows_ (Dq.int _) d_hand__held_ d_hand__spoken_ (Dq.str _) z (fun g27 d28 z => ?_)
            exact ctl_nx (run_ret hw) _ _ _ es25 ⟨_, _, _, rfl, z, d28⟩
          · refine y_nxS ?_
            refine OC_Hand.cl (x := (⟨hand__rows_, hand__at_, hand__held_, hand__spoken_, hand__way_⟩ : ObHand)) cf_Hand d_hand__rows_ (Dq.int _) d_hand__held_ d_hand__spoken_ (Dq.str _) z (fun g29 d30 z => ?_)
            exact ctl_nx (run_ret hw) _ _ _ es14 ⟨_, _, _, rfl, z, d30⟩
    intro s σ H Ho e hI hw
    obtain ⟨hand_, rfl⟩ : ∃ q, q = s := ⟨_, rfl⟩
    obtain ⟨g_hand_, y_done_, y_row_, rfl, z, d_hand_⟩ := hI
    have es31 := (Same.refl _).trans e
    refine OC_Hand.op cf_Hand d_hand_ z (fun a32 dx32 v_hand__rows_ v_hand__at_ v_hand__held_ v_hand__spoken_ v_hand__way_ g_hand__held_ g_hand__spoken_ hv hg_32 d_hand__rows_ d_hand__at_ d_hand__held_ d_hand__spoken_ d_hand__way_ z => ?_)
    cases hv
    refine h_nmG (P := fun x => Z.D K Ho v_hand__rows_ x) hw d_hand__rows_ (fun hand__rows_ d_hand__rows_ hw => ?_)
    refine h_nmG (P := fun x => Z.D K Ho v_hand__at_ x) hw d_hand__at_ (fun hand__at_ d_hand__at_ hw => ?_)
    obtain rfl := d_int d_hand__at_
    refine h_nmG (P := fun x => OL K Ho v_hand__held_ x g_hand__held_) hw d_hand__held_ (fun hand__held_ d_hand__held_ hw => ?_)
    refine h_nmG (P := fun x => OL K Ho v_hand__spoken_ x g_hand__spoken_) hw d_hand__spoken_ (fun hand__spoken_ d_hand__spoken_ hw => ?_)
    refine h_nmG (P := fun x => Z.D K Ho v_hand__way_ x) hw d_hand__way_ (fun hand__way_ d_hand__way_ hw => ?_)
    obtain rfl := d_str d_hand__way_
    replace z : Zs ([(a_hand, HO.ins q_Hand dx32 (ns_Hand.zip [v_hand__rows_, (V.int hand__at_), v_hand__held_, v_hand__spoken_, (V.str hand__way_)]))] ++ (g_hand__held_ ++ (g_hand__spoken_ ++ amb))) H Ho := z
    refine y_sfld ?_
    refine y_c ?_
    obtain ⟨vo33, z⟩ : ∃ vo33, Zs ([(a_hand, HO.ins q_Hand dx32 (ns_Hand.zip [v_hand__rows_, (V.int hand__at_), v_hand__held_, v_hand__spoken_, vo33]))] ++ (g_hand__held_ ++ (g_hand__spoken_ ++ amb))) H Ho := ⟨_, z⟩
    refine l_s hw (fun hand__way_ hw => ?_)
    refine y_var rfl ?_
    refine o_sfld (i := 4) cf_Hand z rfl (Nat.le_of_ble_eq_true rfl) (fun H z => ?_)
    replace z : Zs ([(a_hand, HO.ins q_Hand dx32 (ns_Hand.zip [v_hand__rows_, (V.int hand__at_), v_hand__held_, v_hand__spoken_, (V.str hand__way_)]))] ++ (g_hand__held_ ++ (g_hand__spoken_ ++ amb))) H Ho := z
    refine OC_Hand.cl (x := (⟨hand__rows_, hand__at_, hand__held_, hand__spoken_, hand__way_⟩ : ObHand)) cf_Hand d_hand__rows_ (Dq.int _) d_hand__held_ d_hand__spoken_ (Dq.str _) z (fun g34 d35 z => ?_)
    exact (run_ret hw) _ _ _ _ es31 z Dq.non d35
def sp_Works___init__ (K : PySem.W.Frag) (cl tb : Nat → Addr) : Sp := fun vs H Q E => ∃ (amb : Grp) (Ho : Hp) (a dx C : Addr) (v1 : V) (x1 : (Int × (List (List PyData)))) (v2 : V) (x2 : (Option (List Int))), vs = [.ref a, v1, v2] ∧ Zs ([(a, HO.ins C dx (ns_Works.zip []))] ++ amb) H Ho ∧ PySem.W.nsIn K mainGlobals "Works" = some (some (.ref C)) ∧ LPG K amb Ho v1 x1 ∧ OVq K amb Ho v2 x2 ∧ (m_Works___init__ x1 x2).run fun r => ∀ g H' Ho', Same Ho Ho' → Zs (g ++ amb) H' Ho' → OC_Works K Ho' (.ref a) r g → Q .non H'
abbrev s_Works___init__ : Stmt := inClass (topS 29) 0
theorem sc_Works___init__ : FnScope ["self", "program", "cells", "rows", "hand"] ["self", "program", "cells"] (defScope s_Works___init__) := ⟨rfl, rfl, rfl, by decide +kernel, rfl, by decide +kernel, by decide +kernel⟩
theorem ok_Works___init__ {f : Addr} {fd : FuncData} (F : FunD K "__init__" "Works.__init__" (defArgs s_Works___init__) (defBody s_Works___init__) (defScope s_Works___init__) [V.non] [] f fd) {q_Works q_Hand : Addr} {f_first_numbers : Addr} {fd_first_numbers : FuncData} (c_first_numbers : Cal P w K mg base CX0 "first_numbers" ["many", "numbers"] 1 (sp_first_numbers K cl tb) f_first_numbers fd_first_numbers) {f_Hand___init__ : Addr} {fd_Hand___init__ : FuncData} (c_Hand___init__ : KCal P w K mg base CX0 q_Hand "Hand" ["self", "rows"] 1 (sp_Hand___init__ K cl tb) f_Hand___init__ fd_Hand___init__) {f_lead_on : Addr} {fd_lead_on : FuncData} (c_lead_on : Cal P w K mg base CX0 "lead_on" ["hand"] 7 (sp_lead_on K cl tb) f_lead_on fd_lead_on) (cf_Works : CF K q_Works "Works" ns_Works) (cf_Hand : CF K q_Hand "Hand" ns_Hand) :
    FnOk P w K mg base CX0 8 f fd ["self", "program", "cells"] (sp_Works___init__ K cl tb) := by
  refine F.ok0 sc_Works___init__ (fun vs H Q E h => ?_) (fun cdv A outer s H vs Q E hr h => ?_)
  · obtain ⟨amb, Ho, a_self, dx_self, C0, v_program_, program_, v_cells_, cells_, rfl, _⟩ := h
    rfl
  · obtain ⟨amb, Ho, a_self, dx_self, C0, v_program_, program_, v_cells_, cells_, rfl, z, hC, d_program_, d_cells_, hw⟩ := h
    refine ⟨_, pss_cons (zps_fld (K := K) rfl (pv 0) (pe_call c_first_numbers.ok (hr.mono (by decide)) (by rfl) c_first_numbers.g c_first_numbers.kp c_first_numbers.b .nil pass0 (pa_cons (pe_ix (zix_tup (K := K) rfl) (pv 1) (pe_int) (fun _ _ => rfl)) (pa_cons (pv 2) (pa_nil)))) rfl) (pss_cons (zps_fld (K := K) rfl (pv 0) (pe_lc (own := [("rows", 3)]) rfl sc_Works___init__.nd (zpi_list (K := K) rfl (pe_ix (zix_tup (K := K) rfl) (pv 1) (pe_int) (fun _ _ => rfl))) (blkOk_by (N := ["self", "program", "cells", "rows", "hand"]) (sc := defScope s_Works___init__) (by decide +kernel)) (fun _ _ _ _ _ => pg_name (i := 3) sc_Works___init__.nd rfl (Or.inl rfl)) (fun _ _ _ _ _ => pts_nil) (fun _ _ _ _ _ => (by exact (pe_makeS (E := fun _ => E0) c_Hand___init__.mk_ c_Hand___init__.ok (hr.mono (by decide)) (by rfl) c_Hand___init__.g c_Hand___init__.b (fun σ => passAt0 (E := fun _ => E0)) (pa_cons (pv 3) (pa_nil)))))) rfl) (pss_cons (zps_fld (K := K) rfl (pv 0) (pe_lst (pa_nil)) rfl) (pss_cons (ps_for PassesOwn.never rfl (zpi_list (K := K) rfl (zpe_fld (K := K) rfl (pv 0) rfl)) (pg_name (i := 4) sc_Works___init__.nd rfl (Or.inl rfl)) (pss_cons (ps_expr (pe_call c_lead_on.ok (hr.mono (by decide)) (by rfl) c_lead_on.g c_lead_on.kp c_lead_on.b .nil pass0 (pa_cons (pv 4) pa_nil))) pss_nil)) (pss_nil)))), ?_⟩
    obtain ⟨v_program__1_, t_program_, d_program__1_⟩ := d_program_
    refine h_nmG (P := fun i => TupAt Ho v_program_ (V.int i) v_program__1_) hw t_program_ (fun program__0_ t_program_ hw => ?_)
    refine h_nmG (P := fun x => LLV K amb Ho v_program__1_ x) hw d_program__1_ (fun program__1_ d_program__1_ hw => ?_)
    obtain rfl := cf_Works.eq hC
    replace z : Zs ([(a_self, HO.ins q_Works dx_self (ns_Works.zip []))] ++ amb) H Ho := z
    refine y_sfld ?_
    refine y_call ?_
    refine y_cons ?_
    refine y_op ?_
    refine y_var rfl ?_
    refine y_c ?_
    refine p_ix0 t_program_ z ?_
    refine y_cons ?_
    refine y_var rfl ?_
    refine y_nil ?_
    refine ⟨[], _, _, _, _, _, rfl, z.all, (Dq.int _), (OVq.rd d_cells_ z (mgS mgE)), ?_⟩
    refine run_mono3 hw (fun t1 hw v g3 H Ho6 e4 z5 d2 => ?_)
    replace z := z.unlendO e4 z5
    replace d2 : OL K Ho v t1 g3 := OL.pu d2
    refine l_oG (P := fun v x g => OL K Ho v x g) hw z d2 (fun self__shared_ v_self__shared_ g_self__shared_ z d_self__shared_ hw => ?_)
    refine y_var rfl ?_
    replace z : Zs ([(a_self, HO.ins q_Works dx_self (ns_Works.zip []))] ++ (g_self__shared_ ++ amb)) _ _ := z.go [g_self__shared_, [(a_self, HO.ins q_Works dx_self (ns_Works.zip []))]] amb [1, 0]
    refine o_nfld cf_Works z rfl (fun H z => ?_)
    replace z : Zs ([(a_self, HO.ins q_Works dx_self (ns_Works.zip [v_self__shared_]))] ++ (g_self__shared_ ++ amb)) H Ho := z
    refine y_sfld ?_
    refine y_lc ?_
    refine k_iList ?_
    refine y_op ?_
    refine y_var rfl ?_
    refine y_c ?_
    refine p_ix1 t_program_ z ?_
    refine k_srcLL d_program__1_ (mgS (mgS mgE)) z (fun J T => ?_)
    refine y_lcO (K := K) (P := OC_Hand) (PI := fun Ho x a => LV K amb Ho x a) z (mgS (mgS mgE)) T hw (fun r7 rows_ v_rows_ H Ho N N' e z d_rows_ hw => ?_) (fun t14 u g16 H Ho e hw z d15 => ?_)
    · replace t_program_ := TupAt.mo t_program_ e
      replace d_program__1_ := LLV.mo d_program__1_ e
      replace d_self__shared_ := OL.mo d_self__shared_ e
      have es8 := (Same.refl _).trans e
      refine y_gname (σ' := [some (V.ref a_self), some v_program_, some v_cells_, some v_rows_, none]) rfl ?_
      refine ⟨rfl, ?_⟩
      refine y_yes (w_t ?_)
      refine y_make ?_
      refine y_cons ?_
      refine y_var rfl ?_
      refine y_nil ?_
      refine o_mk (ns := ns_Hand) z (fun a dx H Ho e z => ?_)
      replace t_program_ := TupAt.mo t_program_ e
      replace d_program__1_ := LLV.mo d_program__1_ e
      replace d_rows_ := LV.mo d_rows_ e
      replace d_self__shared_ := OL.mo d_self__shared_ e
      have es9 := (Same.refl _).trans e
      refine ⟨(r7 ++ ([(a_self, HO.ins q_Works dx_self (ns_Works.zip [v_self__shared_]))] ++ (g_self__shared_ ++ amb))), _, a, dx, _, _, _, rfl, z, cf_Hand.at_, (LV.sub d_rows_ (mgS (mgS (mgS mgE)))), ?_⟩
      refine run_mono3 hw (fun t10 hw g12 H Ho e z d11 => ⟨rfl, ?_⟩)
      replace t_program_ := TupAt.mo t_program_ e
      replace d_program__1_ := LLV.mo d_program__1_ e
      replace d_rows_ := LV.mo d_rows_ e
      replace d_self__shared_ := OL.mo d_self__shared_ e
      have es13 := es9.trans e
      exact (run_ret hw) _ _ _ _ es13 z d11
    replace t_program_ := TupAt.mo t_program_ e
    replace d_program__1_ := LLV.mo d_program__1_ e
    replace d_self__shared_ := OL.mo d_self__shared_ e
    have es17 := (Same.refl _).trans e
    refine l_oG (P := fun v x g => OLo OC_Hand K Ho v x g) hw z d15 (fun self__team_ v_self__team_ g_self__team_ z d_self__team_ hw => ?_)
    refine y_var rfl ?_
    replace z : Zs ([(a_self, HO.ins q_Works dx_self (ns_Works.zip [v_self__shared_]))] ++ (g_self__team_ ++ (g_self__shared_ ++ amb))) _ _ := z.go [g_self__team_, [(a_self, HO.ins q_Works dx_self (ns_Works.zip [v_self__shared_]))], g_self__shared_] amb [1, 0, 2]
    refine o_nfld cf_Works z rfl (fun H z => ?_)
    replace z : Zs ([(a_self, HO.ins q_Works dx_self (ns_Works.zip [v_self__shared_, v_self__team_]))] ++ (g_self__team_ ++ (g_self__shared_ ++ amb))) H Ho := z
    refine y_sfld ?_
    refine k_lst ?_
    refine y_nil ?_
    refine k_lstk (K := K) (xs := ([] : (List Int))) z DqAll.nil (by show 0 ≤ sizeLine; decide) (fun H p18 ws19 z d20 => ?_)
    replace z : Zs ([(p18, HO.lst ws19)] ++ ([(a_self, HO.ins q_Works dx_self (ns_Works.zip [v_self__shared_, v_self__team_]))] ++ (g_self__team_ ++ (g_self__shared_ ++ amb)))) H Ho := z
    have o21 := OL.mk (p := p18) d20
    refine l_oG (P := fun v x g => OL K Ho v x g) hw z o21 (fun self__past_ v_self__past_ g_self__past_ z d_self__past_ hw => ?_)
    refine y_var rfl ?_
    replace z : Zs ([(a_self, HO.ins q_Works dx_self (ns_Works.zip [v_self__shared_, v_self__team_]))] ++ (g_self__past_ ++ (g_self__team_ ++ (g_self__shared_ ++ amb)))) _ _ := z.go [g_self__past_, [(a_self, HO.ins q_Works dx_self (ns_Works.zip [v_self__shared_, v_self__team_]))], g_self__team_, g_self__shared_] amb [1, 0, 2, 3]
    refine o_nfld cf_Works z rfl (fun H z => ?_)
    replace z : Zs ([(a_self, HO.ins q_Works dx_self (ns_Works.zip [v_self__shared_, v_self__team_, v_self__past_]))] ++ (g_self__past_ ++ (g_self__team_ ++ (g_self__shared_ ++ amb)))) H Ho := z
    refine y_for ?_
    refine k_iList ?_
    refine y_fld ?_
    refine y_var rfl ?_
    refine o_fld (i := 1) cf_Works mg0 z rfl rfl ?_
    replace z : Zs (g_self__team_ ++ ([(a_self, HO.ins q_Works dx_self (ns_Works.zip [v_self__shared_, v_self__team_, v_self__past_]))] ++ (g_self__past_ ++ (g_self__shared_ ++ amb)))) _ _ := z.go [[(a_self, HO.ins q_Works dx_self (ns_Works.zip [v_self__shared_, v_self__team_, v_self__past_]))], g_self__past_, g_self__team_, g_self__shared_] amb [2, 0, 1, 3]
    refine y_forM d_self__team_ z hw (fun σ => ∃ y_hand_ : Option V, σ = [some (V.ref a_self), some v_program_, some v_cells_, none, y_hand_]) ⟨_, rfl⟩ ?_ ?_
    · rintro a u gi R σ H Ho N z d ⟨y, rfl⟩ hw
      refine y_gname (σ' := [some (V.ref a_self), some v_program_, some v_cells_, none, some u]) rfl ?_
      refine y_drop ?_
      refine y_call ?_
      refine y_cons (y_var rfl (y_nil ?_))
      refine ⟨R, _, _, _, gi, rfl, z, d, ?_⟩
      refine run_mono' hw ?_
      rintro r hr v gi2 H2 Ho2 e z2 dN d2
      cases dN
      exact hr _ _ _ _ ⟨_, rfl⟩ e z2 d2
    rintro self__team_ g_self__team_ σ H Ho e z d_self__team_ ⟨y_hand_, rfl⟩ hw
    replace t_program_ := TupAt.mo t_program_ e
    replace d_program__1_ := LLV.mo d_program__1_ e
    replace d_self__past_ := OL.mo d_self__past_ e
    replace d_self__shared_ := OL.mo d_self__shared_ e
    have es23 := es17.trans e
    replace z : Zs ([(a_self, HO.ins q_Works dx_self (ns_Works.zip [v_self__shared_, v_self__team_, v_self__past_]))] ++ (g_self__shared_ ++ (g_self__team_ ++ (g_self__past_ ++ amb)))) _ _ := z.go [g_self__team_, [(a_self, HO.ins q_Works dx_self (ns_Works.zip [v_self__shared_, v_self__team_, v_self__past_]))], g_self__past_, g_self__shared_] amb [1, 3, 0, 2]
    refine OC_Works.cl (x := (⟨self__shared_, self__team_, self__past_⟩ : ObWorks)) cf_Works d_self__shared_ d_self__team_ d_self__past_ z (fun g24 d25 z => ?_)
    exact (run_ret hw) _ _ _ es23 z d25
def sp_hand_like (K : PySem.W.Frag) (cl tb : Nat → Addr) : Sp := fun vs H Q E => ∃ (amb : Grp) (Ho : Hp) (v0 : V) (x0 : ObHand), vs = [v0] ∧ Zs amb H Ho ∧ BC_Hand K amb Ho v0 x0 ∧ (m_hand_like x0).run fun r => ∀ v g H' Ho', Same Ho Ho' → Zs (g ++ amb) H' Ho' → OC_Hand K Ho' v r g → Q v H'
abbrev s_hand_like : Stmt := topS 25
theorem sc_hand_like : FnScope ["hand", "other"] ["hand"] (defScope s_hand_like) := ⟨rfl, rfl, rfl, by decide +kernel, rfl, by decide +kernel, by decide +kernel⟩
theorem ok_hand_like {f : Addr} {fd : FuncData} (F : Fun K "hand_like" "hand_like" s_hand_like f fd) {q_Hand : Addr} {f_Hand___init__ : Addr} {fd_Hand___init__ : FuncData} (c_Hand___init__ : KCal P w K mg base CX0 q_Hand "Hand" ["self", "rows"] 1 (sp_Hand___init__ K cl tb) f_Hand___init__ fd_Hand___init__) (m_list : mg "list" = none) (cf_Hand : CF K q_Hand "Hand" ns_Hand) :
    FnOk P w K mg base CX0 3 f fd ["hand"] (sp_hand_like K cl tb) := by
  refine F.ok sc_hand_like (fun vs H Q E h => ?_) (fun cdv A outer s H vs Q E hr h => ?_)
  · obtain ⟨amb, Ho, v_hand_, hand_, rfl, _⟩ := h
    rfl
  · obtain ⟨amb, Ho, v_hand_, hand_, rfl, z, d_hand_, hw⟩ := h
    refine ⟨_, pss_cons (ps_set (i := 1) sc_hand_like.nd rfl (Or.inl rfl) ((by exact (pe_makeS (E := fun _ => E0) c_Hand___init__.mk_ c_Hand___init__.ok (hr.mono (by decide)) (by rfl) c_Hand___init__.g c_Hand___init__.b (fun σ => passAt0 (E := fun _ => E0)) (pa_cons (zpe_fld (K := K) rfl (pv 0) rfl) (pa_nil)))))) (pss_cons (zps_fld (K := K) rfl (pv 1) (zpe_fld (K := K) rfl (pv 0) rfl) rfl) (pss_cons (zps_fld (K := K) rfl (pv 1) (pe_callTy (zlist (K := K) rfl) (by rfl) m_list (by decide +kernel) (pa_cons (zpe_fld (K := K) rfl (pv 0) rfl) (pa_nil))) rfl) (pss_cons (zps_fld (K := K) rfl (pv 1) (pe_callTy (zlist (K := K) rfl) (by rfl) m_list (by decide +kernel) (pa_cons (zpe_fld (K := K) rfl (pv 0) rfl) (pa_nil))) rfl) (pss_cons (zps_fld (K := K) rfl (pv 1) (zpe_fld (K := K) rfl (pv 0) rfl) rfl) (pss_cons (ps_ret (pv 1)) (pss_nil)))))), ?_⟩
    have dB_hand := d_hand_
    obtain ⟨g_hand_, d_hand_, mg_hand_⟩ := d_hand_
    refine OC_Hand.rd cf_Hand d_hand_ mg_hand_ (fun a_hand dx_hand v_hand__rows_ v_hand__at_ v_hand__held_ v_hand__spoken_ v_hand__way_ g_hand__held_ g_hand__spoken_ hv d_hand__rows_ d_hand__at_ d_hand__held_ d_hand__spoken_ d_hand__way_ mi_hand mg_hand__held_ mg_hand__spoken_ => ?_)
    cases hv
    refine h_nmG (P := fun x => Z.D K Ho v_hand__rows_ x) hw d_hand__rows_ (fun hand__rows_ d_hand__rows_ hw => ?_)
    refine h_nmG (P := fun x => Z.D K Ho v_hand__at_ x) hw d_hand__at_ (fun hand__at_ d_hand__at_ hw => ?_)
    obtain rfl := d_int d_hand__at_
    have d_hand__held_ : LV K amb Ho v_hand__held_ _ := OL.lv d_hand__held_ mg_hand__held_
    refine h_nmG (P := fun x => LV K amb Ho v_hand__held_ x) hw d_hand__held_ (fun hand__held_ d_hand__held_ hw => ?_)
    have d_hand__spoken_ : LV K amb Ho v_hand__spoken_ _ := OL.lv d_hand__spoken_ mg_hand__spoken_
    refine h_nmG (P := fun x => LV K amb Ho v_hand__spoken_ x) hw d_hand__spoken_ (fun hand__spoken_ d_hand__spoken_ hw => ?_)
    refine h_nmG (P := fun x => Z.D K Ho v_hand__way_ x) hw d_hand__way_ (fun hand__way_ d_hand__way_ hw => ?_)
    obtain rfl := d_str d_hand__way_
    refine l_asg (fun v => [_, some v]) (fun _ => rfl) ?_
    refine y_make ?_
    refine y_cons ?_
    refine y_fld ?_
    refine y_var rfl ?_
    refine o_fld (i := 0) cf_Hand (fun r h => mgE r (mi_hand r h)) z rfl rfl ?_
    refine y_nil ?_
    refine o_mk (ns := ns_Hand) z (fun a dx H Ho e z => ?_)
    replace dB_hand := BC_Hand.mo dB_hand e
    replace d_hand__held_ := LV.mo d_hand__held_ e
    replace d_hand__rows_ := D.mo d_hand__rows_ e
    replace d_hand__spoken_ := LV.mo d_hand__spoken_ e
    have es1 := (Same.refl _).trans e
    refine ⟨amb, _, a, dx, _, _, _, rfl, z, cf_Hand.at_, (LV.of d_hand__rows_), ?_⟩
    refine run_mono3 hw (fun t2 hw g4 H Ho e z d3 => ⟨rfl, ?_⟩)
    replace dB_hand := BC_Hand.mo dB_hand e
    replace d_hand__held_ := LV.mo d_hand__held_ e
    replace d_hand__rows_ := D.mo d_hand__rows_ e
    replace d_hand__spoken_ := LV.mo d_hand__spoken_ e
    have es5 := es1.trans e
    refine l_oG (P := OC_Hand K Ho) hw z d3 (fun other_ v_other_ g_other_ z d_other_ hw => ?_)
    refine OC_Hand.op cf_Hand d_other_ z (fun a_other dx_other v_other__rows_ v_other__at_ v_other__held_ v_other__spoken_ v_other__way_ g_other__held_ g_other__spoken_ hv hg_other d_other__rows_ d_other__at_ d_other__held_ d_other__spoken_ d_other__way_ z => ?_)
    cases hv
    refine h_nmG (P := fun x => Z.D K Ho v_other__rows_ x) hw d_other__rows_ (fun other__rows_ d_other__rows_ hw => ?_)
    refine h_nmG (P := fun x => Z.D K Ho v_other__at_ x) hw d_other__at_ (fun other__at_ d_other__at_ hw => ?_)
    obtain rfl := d_int d_other__at_
    refine h_nmG (P := fun x => OL K Ho v_other__held_ x g_other__held_) hw d_other__held_ (fun other__held_ d_other__held_ hw => ?_)
    refine h_nmG (P := fun x => OL K Ho v_other__spoken_ x g_other__spoken_) hw d_other__spoken_ (fun other__spoken_ d_other__spoken_ hw => ?_)
    refine h_nmG (P := fun x => Z.D K Ho v_other__way_ x) hw d_other__way_ (fun other__way_ d_other__way_ hw => ?_)
    obtain rfl := d_str d_other__way_
    replace z : Zs ([(a_other, HO.ins q_Hand dx_other (ns_Hand.zip [v_other__rows_, (V.int other__at_), v_other__held_, v_other__spoken_, (V.str other__way_)]))] ++ (g_other__held_ ++ (g_other__spoken_ ++ amb))) H Ho := z
    refine y_sfld ?_
    refine y_fld ?_
    refine y_var rfl ?_
    refine o_fld (i := 1) cf_Hand (fun r h => (mgS (mgS (mgS mgE))) r (mi_hand r h)) z rfl rfl ?_
    obtain ⟨vo7, z⟩ : ∃ vo7, Zs ([(a_other, HO.ins q_Hand dx_other (ns_Hand.zip [v_other__rows_, vo7, v_other__held_, v_other__spoken_, (V.str other__way_)]))] ++ (g_other__held_ ++ (g_other__spoken_ ++ amb))) H Ho := ⟨_, z⟩
    refine l_i hw (fun other__at_ hw => ?_)
    refine y_var rfl ?_
    refine o_sfld (i := 1) cf_Hand z rfl (Nat.le_of_ble_eq_true rfl) (fun H z => ?_)
    replace z : Zs ([(a_other, HO.ins q_Hand dx_other (ns_Hand.zip [v_other__rows_, (V.int other__at_), v_other__held_, v_other__spoken_, (V.str other__way_)]))] ++ (g_other__held_ ++ (g_other__spoken_ ++ amb))) H Ho := z
    refine y_sfld ?_
    refine y_cb ?_
    refine y_cons ?_
    refine y_fld ?_
    refine y_var rfl ?_
    refine o_fld (i := 2) cf_Hand (fun r h => (mgS (mgS (mgS mgE))) r (mi_hand r h)) z rfl rfl ?_
    refine y_nil ?_
    refine y_list (LV.sub d_hand__held_ (mgS (mgS (mgS mgE)))) z (fun H p8 ws9 z d10 => ?_)
    replace z : Zs ([(p8, HO.lst ws9)] ++ ([(a_other, HO.ins q_Hand dx_other (ns_Hand.zip [v_other__rows_, (V.int other__at_), v_other__held_, v_other__spoken_, (V.str other__way_)]))] ++ (g_other__held_ ++ (g_other__spoken_ ++ amb)))) H Ho := z
    have o11 := OL.mk (p := p8) d10
    replace z : Zs ([(p8, HO.lst ws9)] ++ ([(a_other, HO.ins q_Hand dx_other (ns_Hand.zip [v_other__rows_, (V.int other__at_), v_other__held_, v_other__spoken_, (V.str other__way_)]))] ++ (g_other__spoken_ ++ amb))) _ _ := z.go [[(p8, HO.lst ws9)], [(a_other, HO.ins q_Hand dx_other (ns_Hand.zip [v_other__rows_, (V.int other__at_), v_other__held_, v_other__spoken_, (V.str other__way_)]))], g_other__held_, g_other__spoken_] amb [0, 1, 3]
    obtain ⟨vo12, z⟩ : ∃ vo12, Zs ([(p8, HO.lst ws9)] ++ ([(a_other, HO.ins q_Hand dx_other (ns_Hand.zip [v_other__rows_, (V.int other__at_), vo12, v_other__spoken_, (V.str other__way_)]))] ++ (g_other__spoken_ ++ amb))) H Ho := ⟨_, z⟩
    refine l_oG (P := fun v x g => OL K Ho v x g) hw z o11 (fun other__held_ v_other__held_ g_other__held_ z d_other__held_ hw => ?_)
    refine y_var rfl ?_
    replace z : Zs ([(a_other, HO.ins q_Hand dx_other (ns_Hand.zip [v_other__rows_, (V.int other__at_), vo12, v_other__spoken_, (V.str other__way_)]))] ++ (g_other__held_ ++ (g_other__spoken_ ++ amb))) _ _ := z.go [g_other__held_, [(a_other, HO.ins q_Hand dx_other (ns_Hand.zip [v_other__rows_, (V.int other__at_), vo12, v_other__spoken_, (V.str other__way_)]))], g_other__spoken_] amb [1, 0, 2]
    refine o_sfld (i := 2) cf_Hand z rfl (Nat.le_of_ble_eq_true rfl) (fun H z => ?_)
    replace z : Zs ([(a_other, HO.ins q_Hand dx_other (ns_Hand.zip [v_other__rows_, (V.int other__at_), v_other__held_, v_other__spoken_, (V.str other__way_)]))] ++ (g_other__held_ ++ (g_other__spoken_ ++ amb))) H Ho := z
    refine y_sfld ?_
    refine y_cb ?_
    refine y_cons ?_
    refine y_fld ?_
    refine y_var rfl ?_
    refine o_fld (i := 3) cf_Hand (fun r h => (mgS (mgS (mgS mgE))) r (mi_hand r h)) z rfl rfl ?_
    refine y_nil ?_
    refine y_list (LV.sub d_hand__spoken_ (mgS (mgS (mgS mgE)))) z (fun H p13 ws14 z d15 => ?_)
    replace z : Zs ([(p13, HO.lst ws14)] ++ ([(a_other, HO.ins q_Hand dx_other (ns_Hand.zip [v_other__rows_, (V.int other__at_), v_other__held_, v_other__spoken_, (V.str other__way_)]))] ++ (g_other__held_ ++ (g_other__spoken_ ++ amb)))) H Ho := z
    have o16 := OL.mk (p := p13) d15
    replace z : Zs ([(p13, HO.lst ws14)] ++ ([(a_other, HO.ins q_Hand dx_other (ns_Hand.zip [v_other__rows_, (V.int other__at_), v_other__held_, v_other__spoken_, (V.str other__way_)]))] ++ (g_other__held_ ++ amb))) _ _ := z.go [[(p13, HO.lst ws14)], [(a_other, HO.ins q_Hand dx_other (ns_Hand.zip [v_other__rows_, (V.int other__at_), v_other__held_, v_other__spoken_, (V.str other__way_)]))], g_other__held_, g_other__spoken_] amb [0, 1, 2]
    obtain ⟨vo17, z⟩ : ∃ vo17, Zs ([(p13, HO.lst ws14)] ++ ([(a_other, HO.ins q_Hand dx_other (ns_Hand.zip [v_other__rows_, (V.int other__at_), v_other__held_, vo17, (V.str other__way_)]))] ++ (g_other__held_ ++ amb))) H Ho := ⟨_, z⟩
    refine l_oG (P := fun v x g => OL K Ho v x g) hw z o16 (fun other__spoken_ v_other__spoken_ g_other__spoken_ z d_other__spoken_ hw => ?_)
    refine y_var rfl ?_
    replace z : Zs ([(a_other, HO.ins q_Hand dx_other (ns_Hand.zip [v_other__rows_, (V.int other__at_), v_other__held_, vo17, (V.str other__way_)]))] ++ (g_other__spoken_ ++ (g_other__held_ ++ amb))) _ _ := z.go [g_other__spoken_, [(a_other, HO.ins q_Hand dx_other (ns_Hand.zip [v_other__rows_, (V.int other__at_), v_other__held_, vo17, (V.str other__way_)]))], g_other__held_] amb [1, 0, 2]
    refine o_sfld (i := 3) cf_Hand z rfl (Nat.le_of_ble_eq_true rfl) (fun H z => ?_)
    replace z : Zs ([(a_other, HO.ins q_Hand dx_other (ns_Hand.zip [v_other__rows_, (V.int other__at_), v_other__held_, v_other__spoken_, (V.str other__way_)]))] ++ (g_other__spoken_ ++ (g_other__held_ ++ amb))) H Ho := z
    refine y_sfld ?_
    refine y_fld ?_
    refine y_var rfl ?_
    refine o_fld (i := 4) cf_Hand (fun r h => (mgS (mgS (mgS mgE))) r (mi_hand r h)) z rfl rfl ?_
    obtain ⟨vo18, z⟩ : ∃ vo18, Zs ([(a_other, HO.ins q_Hand dx_other (ns_Hand.zip [v_other__rows_, (V.int other__at_), v_other__held_, v_other__spoken_, vo18]))] ++ (g_other__spoken_ ++ (g_other__held_ ++ amb))) H Ho := ⟨_, z⟩
    refine l_s hw (fun other__way_ hw => ?_)
    refine y_var rfl ?_
    refine o_sfld (i := 4) cf_Hand z rfl (Nat.le_of_ble_eq_true rfl) (fun H z => ?_)
    replace z : Zs ([(a_other, HO.ins q_Hand dx_other (ns_Hand.zip [v_other__rows_, (V.int other__at_), v_other__held_, v_other__spoken_, (V.str other__way_)]))] ++ (g_other__spoken_ ++ (g_other__held_ ++ amb))) H Ho := z
    replace z : Zs ([(a_other, HO.ins q_Hand dx_other (ns_Hand.zip [v_other__rows_, (V.int other__at_), v_other__held_, v_other__spoken_, (V.str other__way_)]))] ++ (g_other__held_ ++ (g_other__spoken_ ++ amb))) _ _ := z.go [[(a_other, HO.ins q_Hand dx_other (ns_Hand.zip [v_other__rows_, (V.int other__at_), v_other__held_, v_other__spoken_, (V.str other__way_)]))], g_other__spoken_, g_other__held_] amb [0, 2, 1]
    refine OC_Hand.cl (x := (⟨other__rows_, other__at_, other__held_, other__spoken_, other__way_⟩ : ObHand)) cf_Hand d_other__rows_ (Dq.int _) d_other__held_ d_other__spoken_ (Dq.str _) z (fun g19 d20 z => ?_)
    refine h_nmG (P := fun x => OC_Hand K Ho (V.ref a_other) x g19) hw d20 (fun other_ d_other_ hw => ?_)
    refine y_ret ?_
    refine y_var rfl ?_
    exact (run_ret hw) _ _ _ _ es5 z d_other_
def sp_Works_twin (K : PySem.W.Frag) (cl tb : Nat → Addr) : Sp := fun vs H Q E => ∃ (amb : Grp) (Ho : Hp) (v0 : V) (x0 : ObWorks), vs = [v0] ∧ Zs amb H Ho ∧ BC_Works K amb Ho v0 x0 ∧ (m_Works_twin x0).run fun r => ∀ v g H' Ho', Same Ho Ho' → Zs (g ++ amb) H' Ho' → OC_Works K Ho' v r g → Q v H'
abbrev s_Works_twin : Stmt := inClass (topS 29) 7
theorem sc_Works_twin : FnScope ["self", "other", "hand"] ["self"] (defScope s_Works_twin) := ⟨rfl, rfl, rfl, by decide +kernel, rfl, by decide +kernel, by decide +kernel⟩
theorem ok_Works_twin {f : Addr} {fd : FuncData} (F : Fun K "twin" "Works.twin" s_Works_twin f fd) {q_Works : Addr} {f_Works___init__ : Addr} {fd_Works___init__ : FuncData} (c_Works___init__ : KCal P w K mg base CX0 q_Works "Works" ["self", "program", "cells"] 8 (sp_Works___init__ K cl tb) f_Works___init__ fd_Works___init__) {f_hand_like : Addr} {fd_hand_like : FuncData} (c_hand_like : Cal P w K mg base CX0 "hand_like" ["hand"] 3 (sp_hand_like K cl tb) f_hand_like fd_hand_like) (m_len : mg "len" = none) (m_list : mg "list" = none) (cf_Works : CF K q_Works "Works" ns_Works) :
    FnOk P w K mg base CX0 10 f fd ["self"] (sp_Works_twin K cl tb) := by
  refine F.ok sc_Works_twin (fun vs H Q E h => ?_) (fun cdv A outer s H vs Q E hr h => ?_)
  · obtain ⟨amb, Ho, v_self_, self_, rfl, _⟩ := h
    rfl
  · obtain ⟨amb, Ho, v_self_, self_, rfl, z, d_self_, hw⟩ := h
    refine ⟨_, pss_cons (ps_set (i := 1) sc_Works_twin.nd rfl (Or.inl rfl) ((by exact (pe_makeS (E := fun _ => E0) c_Works___init__.mk_ c_Works___init__.ok (hr.mono (by decide)) (by rfl) c_Works___init__.g c_Works___init__.b (fun σ => passAt0 (E := fun _ => E0)) (pa_cons (pe_tup (pa_cons (pe_callB (zlen (K := K) rfl) (by rfl) m_len (by decide +kernel) (pa_cons (zpe_fld (K := K) rfl (pv 0) rfl) (pa_nil))) (pa_cons (pe_lst (pa_nil)) (pa_nil)))) (pa_cons (zpe_fld (K := K) rfl (pv 0) rfl) (pa_nil))))))) (pss_cons (zps_fld (K := K) rfl (pv 1) (pe_lc (own := [("hand", 2)]) rfl sc_Works_twin.nd (zpi_list (K := K) rfl (zpe_fld (K := K) rfl (pv 0) rfl)) (blkOk_by (N := ["self", "other", "hand"]) (sc := defScope s_Works_twin) (by decide +kernel)) (fun _ _ _ _ _ => pg_name (i := 2) sc_Works_twin.nd rfl (Or.inl rfl)) (fun _ _ _ _ _ => pts_nil) (fun _ _ _ _ _ => pe_call c_hand_like.ok (hr.mono (by decide)) (by rfl) c_hand_like.g c_hand_like.kp c_hand_like.b .nil pass0 (pa_cons (pv 2) (pa_nil)))) rfl) (pss_cons (zps_fld (K := K) rfl (pv 1) (pe_callTy (zlist (K := K) rfl) (by rfl) m_list (by decide +kernel) (pa_cons (zpe_fld (K := K) rfl (pv 0) rfl) (pa_nil))) rfl) (pss_cons (ps_ret (pv 1)) (pss_nil)))), ?_⟩
    have dB_self := d_self_
    obtain ⟨g_self_, d_self_, mg_self_⟩ := d_self_
    refine OC_Works.rd cf_Works d_self_ mg_self_ (fun a_self dx_self v_self__shared_ v_self__team_ v_self__past_ g_self__shared_ g_self__team_ g_self__past_ hv d_self__shared_ d_self__team_ d_self__past_ mi_self mg_self__shared_ mg_self__team_ mg_self__past_ => ?_)
    cases hv
    have d_self__shared_ : LV K amb Ho v_self__shared_ _ := OL.lv d_self__shared_ mg_self__shared_
    refine h_nmG (P := fun x => LV K amb Ho v_self__shared_ x) hw d_self__shared_ (fun self__shared_ d_self__shared_ hw => ?_)
    have d_self__team_ : BLo OC_Hand K amb Ho v_self__team_ _ := ⟨_, d_self__team_, mg_self__team_⟩
    refine h_nmG (P := fun x => BLo OC_Hand K amb Ho v_self__team_ x) hw d_self__team_ (fun self__team_ d_self__team_ hw => ?_)
    have d_self__past_ : LV K amb Ho v_self__past_ _ := OL.lv d_self__past_ mg_self__past_
    refine h_nmG (P := fun x => LV K amb Ho v_self__past_ x) hw d_self__past_ (fun self__past_ d_self__past_ hw => ?_)
    refine l_asg (fun v => [_, some v, _]) (fun _ => rfl) ?_
    refine y_make ?_
    refine y_cons ?_
    refine k_tup ?_
    refine y_cons ?_
    refine y_cb ?_
    refine y_cons ?_
    refine y_fld ?_
    refine y_var rfl ?_
    refine o_fld (i := 0) cf_Works (fun r h => mgE r (mi_self r h)) z rfl rfl ?_
    refine y_nil ?_
    refine y_len (LV.sub d_self__shared_ mgE) z ?_
    refine y_cons ?_
    refine k_lst ?_
    refine y_nil ?_
    refine k_lstk (K := K) (xs := ([] : (List (List PyData)))) z DqAll.nil (by show 0 ≤ sizeLine; decide) (fun H p1 ws2 z d3 => ?_)
    replace z : Zs ([(p1, HO.lst ws2)] ++ amb) H Ho := z
    have o4 := OL.mk (p := p1) d3
    refine y_nil ?_
    refine p_tupk z (fun p6 H Ho e z t5 => ?_)
    replace dB_self := BC_Works.mo dB_self e
    replace d_self__past_ := LV.mo d_self__past_ e
    replace d_self__shared_ := LV.mo d_self__shared_ e
    replace d_self__team_ := BLo.mo d_self__team_ e
    replace o4 := OL.mo o4 e
    replace d3 := DL.mo d3 e
    have es7 := (Same.refl _).trans e
    refine y_cons ?_
    refine y_fld ?_
    refine y_var rfl ?_
    refine o_fld (i := 0) cf_Works (fun r h => (mgS mgE) r (mi_self r h)) z rfl rfl ?_
    refine y_nil ?_
    refine o_mk (ns := ns_Works) z (fun a dx H Ho e z => ?_)
    replace dB_self := BC_Works.mo dB_self e
    replace d_self__past_ := LV.mo d_self__past_ e
    replace d_self__shared_ := LV.mo d_self__shared_ e
    replace d_self__team_ := BLo.mo d_self__team_ e
    replace t5 := TupAt.mo t5 e
    replace o4 := OL.mo o4 e
    have es8 := es7.trans e
    refine ⟨([(p1, HO.lst ws2)] ++ amb), _, a, dx, _, _, _, _, _, rfl, z, cf_Works.at_, (LPG.of2 t5 (LLV.ofL o4 mg0)), (OVq.some (LV.sub d_self__shared_ (mgS mgE))), ?_⟩
    refine run_mono3 hw (fun t9 hw g11 H Ho e z d10 => ⟨rfl, ?_⟩)
    replace dB_self := BC_Works.mo dB_self e
    replace d_self__past_ := LV.mo d_self__past_ e
    replace d_self__shared_ := LV.mo d_self__shared_ e
    replace d_self__team_ := BLo.mo d_self__team_ e
    have es12 := es8.trans e
    refine l_oG (P := OC_Works K Ho) hw z d10 (fun other_ v_other_ g_other_ z d_other_ hw => ?_)
    replace z : Zs (g_other_ ++ amb) _ _ := z.go [g_other_, [(p1, HO.lst ws2)]] amb [0]
    refine OC_Works.op cf_Works d_other_ z (fun a_other dx_other v_other__shared_ v_other__team_ v_other__past_ g_other__shared_ g_other__team_ g_other__past_ hv hg_other d_other__shared_ d_other__team_ d_other__past_ z => ?_)
    cases hv
    refine h_nmG (P := fun x => OL K Ho v_other__shared_ x g_other__shared_) hw d_other__shared_ (fun other__shared_ d_other__shared_ hw => ?_)
    refine h_nmG (P := fun x => OLo OC_Hand K Ho v_other__team_ x g_other__team_) hw d_other__team_ (fun other__team_ d_other__team_ hw => ?_)
    refine h_nmG (P := fun x => OL K Ho v_other__past_ x g_other__past_) hw d_other__past_ (fun other__past_ d_other__past_ hw => ?_)
    replace z : Zs ([(a_other, HO.ins q_Works dx_other (ns_Works.zip [v_other__shared_, v_other__team_, v_other__past_]))] ++ (g_other__shared_ ++ (g_other__team_ ++ (g_other__past_ ++ amb)))) H Ho := z
    refine y_sfld ?_
    refine y_lc ?_
    refine k_iList ?_
    refine y_fld ?_
    refine y_var rfl ?_
    refine o_fld (i := 1) cf_Works (fun r h => (mgS (mgS (mgS (mgS mgE)))) r (mi_self r h)) z rfl rfl ?_
    refine k_srcB d_self__team_ (mgS (mgS (mgS (mgS mgE)))) z (fun J T => ?_)
    refine y_lcO (K := K) (P := OC_Hand) (PI := fun Ho x a => BC_Hand K amb Ho x a) z (mgS (mgS (mgS (mgS mgE)))) T hw (fun r14 hand_ v_hand_ H Ho N N' e z d_hand_ hw => ?_) (fun t20 u g22 H Ho e hw z d21 => ?_)
    · replace d_other__past_ := OL.mo d_other__past_ e
      replace d_other__shared_ := OL.mo d_other__shared_ e
      replace d_other__team_ := OLo.mo d_other__team_ e
      replace dB_self := BC_Works.mo dB_self e
      replace d_self__past_ := LV.mo d_self__past_ e
      replace d_self__shared_ := LV.mo d_self__shared_ e
      replace d_self__team_ := BLo.mo d_self__team_ e
      have es15 := es12.trans e
      refine y_gname (σ' := [some (V.ref a_self), some (V.ref a_other), some v_hand_]) rfl ?_
      refine ⟨rfl, ?_⟩
      refine y_yes (w_t ?_)
      refine y_call ?_
      refine y_cons ?_
      refine y_var rfl ?_
      refine y_nil ?_
      refine ⟨(r14 ++ ([(a_other, HO.ins q_Works dx_other (ns_Works.zip [v_other__shared_, v_other__team_, v_other__past_]))] ++ (g_other__shared_ ++ (g_other__team_ ++ (g_other__past_ ++ amb))))), _, _, _, rfl, z, (BC_Hand.sub d_hand_ (mgS (mgS (mgS (mgS (mgS mgE)))))), ?_⟩
      refine run_mono3 hw (fun t16 hw v g18 H Ho e z d17 => ?_)
      replace d_hand_ := BC_Hand.mo d_hand_ e
      replace d_other__past_ := OL.mo d_other__past_ e
      replace d_other__shared_ := OL.mo d_other__shared_ e
      replace d_other__team_ := OLo.mo d_other__team_ e
      replace dB_self := BC_Works.mo dB_self e
      replace d_self__past_ := LV.mo d_self__past_ e
      replace d_self__shared_ := LV.mo d_self__shared_ e
      replace d_self__team_ := BLo.mo d_self__team_ e
      have es19 := (Same.refl _).trans e
      exact (run_ret hw) _ _ _ _ es19 z d17
    replace d_other__past_ := OL.mo d_other__past_ e
    replace d_other__shared_ := OL.mo d_other__shared_ e
    replace d_other__team_ := OLo.mo d_other__team_ e
    replace dB_self := BC_Works.mo dB_self e
    replace d_self__past_ := LV.mo d_self__past_ e
    replace d_self__shared_ := LV.mo d_self__shared_ e
    replace d_self__team_ := BLo.mo d_self__team_ e
    have es23 := es12.trans e
    replace z : Zs (g22 ++ ([(a_other, HO.ins q_Works dx_other (ns_Works.zip [v_other__shared_, v_other__team_, v_other__past_]))] ++ (g_other__shared_ ++ (g_other__past_ ++ amb)))) _ _ := z.go [g22, [(a_other, HO.ins q_Works dx_other (ns_Works.zip [v_other__shared_, v_other__team_, v_other__past_]))], g_other__shared_, g_other__team_, g_other__past_] amb [0, 1, 2, 4]
    obtain ⟨vo24, z⟩ : ∃ vo24, Zs (g22 ++ ([(a_other, HO.ins q_Works dx_other (ns_Works.zip [v_other__shared_, vo24, v_other__past_]))] ++ (g_other__shared_ ++ (g_other__past_ ++ amb)))) H Ho := ⟨_, z⟩
    refine l_oG (P := fun v x g => OLo OC_Hand K Ho v x g) hw z d21 (fun other__team_ v_other__team_ g_other__team_ z d_other__team_ hw => ?_)
    refine y_var rfl ?_
    replace z : Zs ([(a_other, HO.ins q_Works dx_other (ns_Works.zip [v_other__shared_, vo24, v_other__past_]))] ++ (g_other__team_ ++ (g_other__shared_ ++ (g_other__past_ ++ amb)))) _ _ := z.go [g_other__team_, [(a_other, HO.ins q_Works dx_other (ns_Works.zip [v_other__shared_, vo24, v_other__past_]))], g_other__shared_, g_other__past_] amb [1, 0, 2, 3]
    refine o_sfld (i := 1) cf_Works z rfl (Nat.le_of_ble_eq_true rfl) (fun H z => ?_)
    replace z : Zs ([(a_other, HO.ins q_Works dx_other (ns_Works.zip [v_other__shared_, v_other__team_, v_other__past_]))] ++ (g_other__team_ ++ (g_other__shared_ ++ (g_other__past_ ++ amb)))) H Ho := z
    refine y_sfld ?_
    refine y_cb ?_
    refine y_cons ?_
    refine y_fld ?_
    refine y_var rfl ?_
    refine o_fld (i := 2) cf_Works (fun r h => (mgS (mgS (mgS (mgS mgE)))) r (mi_self r h)) z rfl rfl ?_
    refine y_nil ?_
    refine y_list (LV.sub d_self__past_ (mgS (mgS (mgS (mgS mgE))))) z (fun H p25 ws26 z d27 => ?_)
    replace z : Zs ([(p25, HO.lst ws26)] ++ ([(a_other, HO.ins q_Works dx_other (ns_Works.zip [v_other__shared_, v_other__team_, v_other__past_]))] ++ (g_other__team_ ++ (g_other__shared_ ++ (g_other__past_ ++ amb))))) H Ho := z
    have o28 := OL.mk (p := p25) d27
    replace z : Zs ([(p25, HO.lst ws26)] ++ ([(a_other, HO.ins q_Works dx_other (ns_Works.zip [v_other__shared_, v_other__team_, v_other__past_]))] ++ (g_other__team_ ++ (g_other__shared_ ++ amb)))) _ _ := z.go [[(p25, HO.lst ws26)], [(a_other, HO.ins q_Works dx_other (ns_Works.zip [v_other__shared_, v_other__team_, v_other__past_]))], g_other__team_, g_other__shared_, g_other__past_] amb [0, 1, 2, 3]
    obtain ⟨vo29, z⟩ : ∃ vo29, Zs ([(p25, HO.lst ws26)] ++ ([(a_other, HO.ins q_Works dx_other (ns_Works.zip [v_other__shared_, v_other__team_, vo29]))] ++ (g_other__team_ ++ (g_other__shared_ ++ amb)))) H Ho := ⟨_, z⟩
    refine l_oG (P := fun v x g => OL K Ho v x g) hw z o28 (fun other__past_ v_other__past_ g_other__past_ z d_other__past_ hw => ?_)
    refine y_var rfl ?_
    replace z : Zs ([(a_other, HO.ins q_Works dx_other (ns_Works.zip [v_other__shared_, v_other__team_, vo29]))] ++ (g_other__past_ ++ (g_other__team_ ++ (g_other__shared_ ++ amb)))) _ _ := z.go [g_other__past_, [(a_other, HO.ins q_Works dx_other (ns_Works.zip [v_other__shared_, v_other__team_, vo29]))], g_other__team_, g_other__shared_] amb [1, 0, 2, 3]
    refine o_sfld (i := 2) cf_Works z rfl (Nat.le_of_ble_eq_true rfl) (fun H z => ?_)
    replace z : Zs ([(a_other, HO.ins q_Works dx_other (ns_Works.zip [v_other__shared_, v_other__team_, v_other__past_]))] ++ (g_other__past_ ++ (g_other__team_ ++ (g_other__shared_ ++ amb)))) H Ho := z
    replace z : Zs ([(a_other, HO.ins q_Works dx_other (ns_Works.zip [v_other__shared_, v_other__team_, v_other__past_]))] ++ (g_other__shared_ ++ (g_other__team_ ++ (g_other__past_ ++ amb)))) _ _ := z.go [[(a_other, HO.ins q_Works dx_other (ns_Works.zip [v_other__shared_, v_other__team_, v_other__past_]))], g_other__past_, g_other__team_, g_other__shared_] amb [0, 3, 2, 1]
    refine OC_Works.cl (x := (⟨other__shared_, other__team_, other__past_⟩ : ObWorks)) cf_Works d_other__shared_ d_other__team_ d_other__past_ z (fun g30 d31 z => ?_)
    refine h_nmG (P := fun x => OC_Works K Ho (V.ref a_other) x g30) hw d31 (fun other_ d_other_ hw => ?_)
    refine y_ret ?_
    refine y_var rfl ?_
    exact (run_ret hw) _ _ _ _ es23 z d_other_
def sp_Works_counts (K : PySem.W.Frag) (cl tb : Nat → Addr) : Sp := fun vs H Q E => ∃ (amb : Grp) (Ho : Hp) (v0 : V) (x0 : ObWorks), vs = [v0] ∧ Zs amb H Ho ∧ Z.D K Ho v0 x0 ∧ (m_Works_counts x0).run fun r => ∀ v g H' Ho', Same Ho Ho' → Zs (g ++ amb) H' Ho' → OL K Ho' v r g → Q v H'
abbrev s_Works_counts : Stmt := inClass (topS 29) 6
theorem sc_Works_counts : FnScope ["self", "hand"] ["self"] (defScope s_Works_counts) := ⟨rfl, rfl, rfl, by decide +kernel, rfl, by decide +kernel, by decide +kernel⟩
theorem ok_Works_counts {f : Addr} {fd : FuncData} (F : Fun K "counts" "Works.counts" s_Works_counts f fd) {q_Works : Addr} (m_len : mg "len" = none) (m_range : mg "range" = none) (cf_Works : CF K q_Works "Works" ns_Works) :
    FnOk P w K mg base CX0 1 f fd ["self"] (sp_Works_counts K cl tb) := by
  refine F.ok sc_Works_counts (fun vs H Q E h => ?_) (fun cdv A outer s H vs Q E hr h => ?_)
  · obtain ⟨amb, Ho, v_self_, self_, rfl, _⟩ := h
    rfl
  · obtain ⟨amb, Ho, v_self_, self_, rfl, z, d_self_, hw⟩ := h
    refine ⟨_, pss_cons (ps_ret (pe_lc (own := [("hand", 1)]) rfl sc_Works_counts.nd (pi_range1 (by rfl) m_range (pa_cons (pe_callB (zlen (K := K) rfl) (by rfl) m_len (by decide +kernel) (pa_cons (zpe_fld (K := K) rfl (pv 0) rfl) (pa_nil))) (pa_nil))) (blkOk_by (N := ["self", "hand"]) (sc := defScope s_Works_counts) (by decide +kernel)) (fun _ _ _ _ _ => pg_name (i := 1) sc_Works_counts.nd rfl (Or.inl rfl)) (fun _ _ _ _ _ => pts_nil) (fun _ _ _ _ _ => zpe_bm (K := K) rfl PySem.F.plainAttrs_list PySem.F.slot_list_count PySem.F.type_list_count (zmt_cnt (K := K) rfl) (zpe_fld (K := K) rfl (pv 0) rfl) (pa_cons (pv 1) (pa_nil))))) (pss_nil), ?_⟩
    refine y_ret ?_
    refine y_lc ?_
    refine k_iR1 ?_
    refine y_cons ?_
    refine y_cb ?_
    refine y_cons ?_
    refine y_fld ?_
    refine y_var rfl ?_
    refine o_fldD (i := 1) (x := self_) (w := self_.team) cf_Works d_self_ rfl z rfl rfl (fun w d1 => ?_)
    refine y_nil ?_
    refine y_len (LV.of d1) z ?_
    refine y_nil ?_
    refine k_srcR1 (K := K) (Ho := Ho) hw.1 (fun J T => ?_)
    replace hw := (run_gd hw).2
    refine y_lcG z mgN T hw (fun r2 hand_ v_hand_ H Ho N N' e z d_hand_ hw => ?_) (fun t8 H Ho e hw p5 ws6 z d7 => ?_)
    · replace z : Zs ([r2] ++ amb) H Ho := z
      replace d_self_ := D.mo d_self_ e
      have es3 := (Same.refl _).trans e
      obtain rfl := d_int d_hand_
      refine y_gname (σ' := [some v_self_, some (V.int hand_)]) rfl ?_
      refine ⟨rfl, ?_⟩
      refine y_yes (w_t ?_)
      replace hw := run_itT (run_bret hw) rfl
      refine y_bm ?_
      refine y_fld ?_
      refine y_var rfl ?_
      refine o_fldD (i := 2) (x := self_) (w := self_.past) cf_Works d_self_ rfl z rfl rfl (fun w d4 => ?_)
      refine g_tyL (LV.of d4) z ?_
      refine y_cons ?_
      refine y_var rfl ?_
      refine y_nil ?_
      refine y_cnt (LV.of d4) z ?_
      exact (run_ret hw) _ _ _ (Same.refl _) z (Dq.int _)
    replace d_self_ := D.mo d_self_ e
    have es9 := (Same.refl _).trans e
    replace z : Zs ([(p5, HO.lst ws6)] ++ amb) H Ho := z
    have o10 := OL.mk (p := p5) d7
    exact (run_ret hw) _ _ _ _ es9 z o10
def sp_Replay___init__ (K : PySem.W.Frag) (cl tb : Nat → Addr) : Sp := fun vs H Q E => ∃ (amb : Grp) (Ho : Hp) (a dx C : Addr) (v1 : V) (x1 : ObWorks) (v2 : V) (x2 : ((List Int) × (List (P4 Int Int Int Int)))), vs = [.ref a, v1, v2] ∧ Zs ([(a, HO.ins C dx (ns_Replay.zip []))] ++ amb) H Ho ∧ PySem.W.nsIn K mainGlobals "Replay" = some (some (.ref C)) ∧ BC_Works K amb Ho v1 x1 ∧ LP K amb Ho v2 x2 ∧ (m_Replay___init__ x1 x2).run (ExP (fun r => ∀ g H' Ho', Same Ho Ho' → Zs (g ++ amb) H' Ho' → OC_Replay K Ho' (.ref a) r g → Q .non H') fun e => ∀ H' Ho', Same Ho Ho' → Zs amb H' Ho' → e.arg = .none → E (.ref (cl e.cls)) none H')
abbrev s_Replay___init__ : Stmt := inClass (topS 12) 0
theorem sc_Replay___init__ : FnScope ["self", "works", "record"] ["self", "works", "record"] (defScope s_Replay___init__) := ⟨rfl, rfl, rfl, by decide +kernel, rfl, by decide +kernel, by decide +kernel⟩
theorem ok_Replay___init__ {f : Addr} {fd : FuncData} (F : Fun K "__init__" "Replay.__init__" s_Replay___init__ f fd) {q_Replay q_Works : Addr} {f_need_record : Addr} {fd_need_record : FuncData} (c_need_record : Cal P w K mg base (L2.CX P w) "need_record" ["record"] 2 (sp_need_record K cl tb) f_need_record fd_need_record) {f_Works_counts : Addr} {fd_Works_counts : FuncData} (c_Works_counts : MCal P w K mg base CX0 q_Works "counts" ["self"] 1 (sp_Works_counts K cl tb) f_Works_counts fd_Works_counts) {f_Works_twin : Addr} {fd_Works_twin : FuncData} (c_Works_twin : MCal P w K mg base CX0 q_Works "twin" ["self"] 10 (sp_Works_twin K cl tb) f_Works_twin fd_Works_twin) (m_len : mg "len" = none) (m_list : mg "list" = none) (cf_Replay : CF K q_Replay "Replay" ns_Replay) (cf_Works : CF K q_Works "Works" ns_Works) (xx_NoHand : PySem.W.excIn K (cl 0) [.type "ValueError", .type "Exception", .type "BaseException", .type "object"] "ValueError.__new__" = true) (gc_NoHand : mg "NoHand" = some (.ref (cl 0))) (kk_NoHand : PySem.W.keepIn K (.ref (cl 0)) = true) (bb_NoHand : PySem.W.subIn K (.ref (cl 0)) (.type "BaseException") = some true) (tt_NoHand : PySem.W.typeIn K (.ref (cl 0)) = some (.type "type")) :
    FnOk P w K mg base (L2.CX P w) 11 f fd ["self", "works", "record"] (sp_Replay___init__ K cl tb) := by
  refine F.okX sc_Replay___init__ (fun vs H Q E h => ?_) (fun cdv A outer s H vs Q E hr h => ?_)
  · obtain ⟨amb, Ho, a_self, dx_self, C0, v_works_, works_, v_record_, record_, rfl, _⟩ := h
    rfl
  · obtain ⟨amb, Ho, a_self, dx_self, C0, v_works_, works_, v_record_, record_, rfl, z, hC, d_works_, d_record_, hw⟩ := h
    refine ⟨_, pss_cons (ps_expr ((by exact (pe_callS c_need_record.ok (hr.mono (by decide)) (by rfl) c_need_record.g c_need_record.kp c_need_record.b (fun σ => passAt (takes_of rfl rfl rfl rfl) σ) (pa_cons (pv 2) (pa_nil)))))) (pss_cons (ps_if (pt_cmpR (op_ne) (pe_callB (zlen (K := K) rfl) (by rfl) m_len (by decide +kernel) (pa_cons (pe_ix (zix_tup (K := K) rfl) (pv 2) (pe_int) (fun _ _ => rfl)) (pa_nil))) (pe_callB (zlen (K := K) rfl) (by rfl) m_len (by decide +kernel) (pa_cons ((by exact (pe_methS0' (E := fun _ => E0) (pv 1) cf_Works.cl c_Works_counts.me c_Works_counts.ok (hr.mono (by decide)) c_Works_counts.b (fun σ => passAt0 (E := fun _ => E0))))) (pa_nil))) (nomark _)) (pss_cons (zps_raise (K := K) rfl rfl (takes_of rfl rfl rfl rfl) xx_NoHand gc_NoHand kk_NoHand bb_NoHand tt_NoHand (by rfl)) (pss_nil)) (pss_nil)) (pss_cons (zps_fld (K := K) rfl (pv 0) ((by exact (pe_methS0' (E := fun _ => E0) (pv 1) cf_Works.cl c_Works_twin.me c_Works_twin.ok (hr.mono (by decide)) c_Works_twin.b (fun σ => passAt0 (E := fun _ => E0))))) rfl) (pss_cons (zps_fld (K := K) rfl (pv 0) (pe_callTy (zlist (K := K) rfl) (by rfl) m_list (by decide +kernel) (pa_cons (pe_ix (zix_tup (K := K) rfl) (pv 2) (pe_int) (fun _ _ => rfl)) (pa_nil))) rfl) (pss_cons (zps_fld (K := K) rfl (pv 0) (pe_callTy (zlist (K := K) rfl) (by rfl) m_list (by decide +kernel) (pa_cons (pe_ix (zix_tup (K := K) rfl) (pv 2) (pe_int) (fun _ _ => rfl)) (pa_nil))) rfl) (pss_cons (zps_fld (K := K) rfl (pv 0) (pe_op op_rep (pe_lst (pa_cons (pe_int) (pa_nil))) (pe_callB (zlen (K := K) rfl) (by rfl) m_len (by decide +kernel) (pa_cons (pe_ix (zix_tup (K := K) rfl) (pv 2) (pe_int) (fun _ _ => rfl)) (pa_nil)))) rfl) (pss_nil)))))), ?_⟩
    obtain ⟨v_record__0_, v_record__1_, t_record_, d_record__0_, d_record__1_⟩ := d_record_
    refine h_nmG (P := fun x => LV K amb Ho v_record__0_ x) hw d_record__0_ (fun record__0_ d_record__0_ hw => ?_)
    refine h_nmG (P := fun x => LV K amb Ho v_record__1_ x) hw d_record__1_ (fun record__1_ d_record__1_ hw => ?_)
    obtain rfl := cf_Replay.eq hC
    replace z : Zs ([(a_self, HO.ins q_Replay dx_self (ns_Replay.zip []))] ++ amb) H Ho := z
    refine y_drop ?_
    refine y_callS ?_
    refine y_cons ?_
    refine y_var rfl ?_
    refine y_nil ?_
    refine ⟨([(a_self, HO.ins q_Replay dx_self (ns_Replay.zip []))] ++ amb), _, _, _, rfl, z, (LP.of2 t_record_ (LV.sub d_record__0_ (mgS mgE)) (LV.sub d_record__1_ (mgS mgE))), ?_⟩
    refine exm_mono (run_exm hw) (fun t1 hw v H Ho e z d2 => ?_) (fun er hw H Ho e z her => ?_)
    rotate_left
    · replace z : Zs amb _ _ := z.go [[(a_self, HO.ins q_Replay dx_self (ns_Replay.zip []))]] amb []
      exact exP_er (run_ret hw) _ _ ((Same.refl _).trans e) z her
    replace t_record_ := TupAt.mo t_record_ e
    replace d_record__0_ := LV.mo d_record__0_ e
    replace d_record__1_ := LV.mo d_record__1_ e
    replace d_works_ := BC_Works.mo d_works_ e
    have es4 := (Same.refl _).trans e
    cases d2
    refine y_ifS ?_
    refine y_test ?_
    refine y_op ?_
    refine y_cb ?_
    refine y_cons ?_
    refine y_op ?_
    refine y_var rfl ?_
    refine y_c ?_
    refine p_ix0 t_record_ z ?_
    refine y_nil ?_
    refine y_len (LV.sub d_record__0_ (mgS mgE)) z ?_
    refine y_cb ?_
    refine y_cons ?_
    refine y_meth ?_
    refine y_var rfl ?_
    refine BC_Works.met cf_Works d_works_ (mgS mgE) z (by decide +kernel) ?_
    refine y_nil ?_
    refine ⟨[], _, _, _, rfl, z.all, (BC_Works.rd (BC_Works.sub d_works_ (mgS mgE)) z), ?_⟩
    refine run_mono3 hw (fun t5 hw v g7 H Ho10 e8 z9 d6 => ?_)
    replace z := z.unlendO e8 z9
    replace d6 : OL K Ho v t5 g7 := OL.pu d6
    refine y_nil ?_
    refine y_len (OL.lv d6 mg0) z ?_
    refine y_nei ?_
    refine ⟨_, rfl, ?_⟩
    refine y_cases hw (fun hb hw => ?_) (fun hb hw => ?_)
    · replace z : Zs ([(a_self, HO.ins q_Replay dx_self (ns_Replay.zip []))] ++ amb) _ _ := z.go [g7, [(a_self, HO.ins q_Replay dx_self (ns_Replay.zip []))]] amb [1]
      refine y_raise ?_
      replace z : Zs amb _ _ := z.go [[(a_self, HO.ins q_Replay dx_self (ns_Replay.zip []))]] amb []
      exact exP_er (run_ret hw) _ _ es4 z rfl
    · refine y_nxS ?_
      replace z : Zs ([(a_self, HO.ins q_Replay dx_self (ns_Replay.zip []))] ++ amb) _ _ := z.go [g7, [(a_self, HO.ins q_Replay dx_self (ns_Replay.zip []))]] amb [1]
      refine y_sfld ?_
      refine y_meth ?_
      refine y_var rfl ?_
      refine BC_Works.met cf_Works d_works_ (mgS mgE) z (by decide +kernel) ?_
      refine y_nil ?_
      refine ⟨([(a_self, HO.ins q_Replay dx_self (ns_Replay.zip []))] ++ amb), _, _, _, rfl, z, (BC_Works.sub d_works_ (mgS mgE)), ?_⟩
      refine run_mono3 hw (fun t11 hw v g13 H Ho e z d12 => ?_)
      replace t_record_ := TupAt.mo t_record_ e
      replace d_record__0_ := LV.mo d_record__0_ e
      replace d_record__1_ := LV.mo d_record__1_ e
      replace d_works_ := BC_Works.mo d_works_ e
      have es14 := es4.trans e
      refine l_oG (P := fun v x g => OC_Works K Ho v x g) hw z d12 (fun self__going_ v_self__going_ g_self__going_ z d_self__going_ hw => ?_)
      refine y_var rfl ?_
      replace z : Zs ([(a_self, HO.ins q_Replay dx_self (ns_Replay.zip []))] ++ (g_self__going_ ++ amb)) _ _ := z.go [g_self__going_, [(a_self, HO.ins q_Replay dx_self (ns_Replay.zip []))]] amb [1, 0]
      refine o_nfld cf_Replay z rfl (fun H z => ?_)
      replace z : Zs ([(a_self, HO.ins q_Replay dx_self (ns_Replay.zip [v_self__going_]))] ++ (g_self__going_ ++ amb)) H Ho := z
      refine y_sfld ?_
      refine y_cb ?_
      refine y_cons ?_
      refine y_op ?_
      refine y_var rfl ?_
      refine y_c ?_
      refine p_ix0 t_record_ z ?_
      refine y_nil ?_
      refine y_list (LV.sub d_record__0_ (mgS (mgS mgE))) z (fun H p15 ws16 z d17 => ?_)
      replace z : Zs ([(p15, HO.lst ws16)] ++ ([(a_self, HO.ins q_Replay dx_self (ns_Replay.zip [v_self__going_]))] ++ (g_self__going_ ++ amb))) H Ho := z
      have o18 := OL.mk (p := p15) d17
      refine l_oG (P := fun v x g => OL K Ho v x g) hw z o18 (fun self__due_ v_self__due_ g_self__due_ z d_self__due_ hw => ?_)
      refine y_var rfl ?_
      replace z : Zs ([(a_self, HO.ins q_Replay dx_self (ns_Replay.zip [v_self__going_]))] ++ (g_self__due_ ++ (g_self__going_ ++ amb))) _ _ := z.go [g_self__due_, [(a_self, HO.ins q_Replay dx_self (ns_Replay.zip [v_self__going_]))], g_self__going_] amb [1, 0, 2]
      refine o_nfld cf_Replay z rfl (fun H z => ?_)
      replace z : Zs ([(a_self, HO.ins q_Replay dx_self (ns_Replay.zip [v_self__going_, v_self__due_]))] ++ (g_self__due_ ++ (g_self__going_ ++ amb))) H Ho := z
      refine y_sfld ?_
      refine y_cb ?_
      refine y_cons ?_
      refine y_op ?_
      refine y_var rfl ?_
      refine y_c ?_
      refine p_ix1 t_record_ z ?_
      refine y_nil ?_
      refine y_list (LV.sub d_record__1_ (mgS (mgS (mgS mgE)))) z (fun H p19 ws20 z d21 => ?_)
      replace z : Zs ([(p19, HO.lst ws20)] ++ ([(a_self, HO.ins q_Replay dx_self (ns_Replay.zip [v_self__going_, v_self__due_]))] ++ (g_self__due_ ++ (g_self__going_ ++ amb)))) H Ho := z
      have o22 := OL.mk (p := p19) d21
      refine l_oG (P := fun v x g => OL K Ho v x g) hw z o22 (fun self__ties_ v_self__ties_ g_self__ties_ z d_self__ties_ hw => ?_)
      refine y_var rfl ?_
      replace z : Zs ([(a_self, HO.ins q_Replay dx_self (ns_Replay.zip [v_self__going_, v_self__due_]))] ++ (g_self__ties_ ++ (g_self__due_ ++ (g_self__going_ ++ amb)))) _ _ := z.go [g_self__ties_, [(a_self, HO.ins q_Replay dx_self (ns_Replay.zip [v_self__going_, v_self__due_]))], g_self__due_, g_self__going_] amb [1, 0, 2, 3]
      refine o_nfld cf_Replay z rfl (fun H z => ?_)
      replace z : Zs ([(a_self, HO.ins q_Replay dx_self (ns_Replay.zip [v_self__going_, v_self__due_, v_self__ties_]))] ++ (g_self__ties_ ++ (g_self__due_ ++ (g_self__going_ ++ amb)))) H Ho := z
      refine y_sfld ?_
      refine y_op ?_
      refine k_lst ?_
      refine y_cons ?_
      refine y_c ?_
      refine y_nil ?_
      refine k_lstk (K := K) (xs := ([(0 : Int)] : (List Int))) z (DqAll.cons (Dq.int _) DqAll.nil) (by show 1 ≤ sizeLine; decide) (fun H p23 ws24 z d25 => ?_)
      replace z : Zs ([(p23, HO.lst ws24)] ++ ([(a_self, HO.ins q_Replay dx_self (ns_Replay.zip [v_self__going_, v_self__due_, v_self__ties_]))] ++ (g_self__ties_ ++ (g_self__due_ ++ (g_self__going_ ++ amb))))) H Ho := z
      have o26 := OL.mk (p := p23) d25
      refine y_cb ?_
      refine y_cons ?_
      refine y_op ?_
      refine y_var rfl ?_
      refine y_c ?_
      refine p_ix0 t_record_ z ?_
      refine y_nil ?_
      refine y_len (LV.sub d_record__0_ (mgS (mgS (mgS (mgS (mgS mgE)))))) z ?_
      refine y_rep z d25 hw.1 (fun H p27 ws28 z d29 => ?_)
      replace hw := (run_gd hw).2
      replace z : Zs ([(p27, HO.lst ws28)] ++ ([(a_self, HO.ins q_Replay dx_self (ns_Replay.zip [v_self__going_, v_self__due_, v_self__ties_]))] ++ (g_self__ties_ ++ (g_self__due_ ++ (g_self__going_ ++ amb))))) H Ho := z
      have o30 := OL.mk (p := p27) d29
      refine l_oG (P := fun v x g => OL K Ho v x g) hw z o30 (fun self__gone_ v_self__gone_ g_self__gone_ z d_self__gone_ hw => ?_)
      refine y_var rfl ?_
      replace z : Zs ([(a_self, HO.ins q_Replay dx_self (ns_Replay.zip [v_self__going_, v_self__due_, v_self__ties_]))] ++ (g_self__gone_ ++ (g_self__ties_ ++ (g_self__due_ ++ (g_self__going_ ++ amb))))) _ _ := z.go [g_self__gone_, [(a_self, HO.ins q_Replay dx_self (ns_Replay.zip [v_self__going_, v_self__due_, v_self__ties_]))], g_self__ties_, g_self__due_, g_self__going_] amb [1, 0, 2, 3, 4]
      refine o_nfld cf_Replay z rfl (fun H z => ?_)
      replace z : Zs ([(a_self, HO.ins q_Replay dx_self (ns_Replay.zip [v_self__going_, v_self__due_, v_self__ties_, v_self__gone_]))] ++ (g_self__gone_ ++ (g_self__ties_ ++ (g_self__due_ ++ (g_self__going_ ++ amb))))) H Ho := z
      replace z : Zs ([(a_self, HO.ins q_Replay dx_self (ns_Replay.zip [v_self__going_, v_self__due_, v_self__ties_, v_self__gone_]))] ++ (g_self__going_ ++ (g_self__due_ ++ (g_self__ties_ ++ (g_self__gone_ ++ amb))))) _ _ := z.go [[(a_self, HO.ins q_Replay dx_self (ns_Replay.zip [v_self__going_, v_self__due_, v_self__ties_, v_self__gone_]))], g_self__gone_, g_self__ties_, g_self__due_, g_self__going_] amb [0, 4, 3, 2, 1]
      refine OC_Replay.cl (x := (⟨self__going_, self__due_, self__ties_, self__gone_⟩ : ObReplay)) cf_Replay d_self__going_ d_self__due_ d_self__ties_ d_self__gone_ z (fun g31 d32 z => ?_)
      exact (exP_ok (run_ret hw)) _ _ _ es14 z d32
def sp_hand_of_D (K : PySem.W.Frag) (cl tb : Nat → Addr) : Sp := fun vs H Q E => ∃ (amb : Grp) (Ho : Hp) (v0 : V) (x0 : (List ObHand)) (v1 : V) (x1 : Int), vs = [v0, v1] ∧ Zs amb H Ho ∧ Z.D K Ho v0 x0 ∧ Z.D K Ho v1 x1 ∧ (m_hand_of_D x0 x1).run (ExP (fun r => ∀ v H' Ho', Same Ho Ho' → Zs amb H' Ho' → Z.D K Ho' v r → Q v H') fun e => ∀ H' Ho', Same Ho Ho' → Zs amb H' Ho' → e.arg = .none → E (.ref (cl e.cls)) none H')
abbrev s_hand_of_D : Stmt := topS 26
theorem sc_hand_of_D : FnScope ["team", "number"] ["team", "number"] (defScope s_hand_of_D) := ⟨rfl, rfl, rfl, by decide +kernel, rfl, by decide +kernel, by decide +kernel⟩
theorem ok_hand_of_D {f : Addr} {fd : FuncData} (F : Fun K "hand_of" "hand_of" s_hand_of_D f fd) (m_len : mg "len" = none) (xx_NoHand : PySem.W.excIn K (cl 0) [.type "ValueError", .type "Exception", .type "BaseException", .type "object"] "ValueError.__new__" = true) (gc_NoHand : mg "NoHand" = some (.ref (cl 0))) (kk_NoHand : PySem.W.keepIn K (.ref (cl 0)) = true) (bb_NoHand : PySem.W.subIn K (.ref (cl 0)) (.type "BaseException") = some true) (tt_NoHand : PySem.W.typeIn K (.ref (cl 0)) = some (.type "type")) :
    FnOk P w K mg base (L2.CX P w) 1 f fd ["team", "number"] (sp_hand_of_D K cl tb) := by
  refine F.okX sc_hand_of_D (fun vs H Q E h => ?_) (fun cdv A outer s H vs Q E hr h => ?_)
  · obtain ⟨amb, Ho, v_team_, team_, v_number_, number_, rfl, _⟩ := h
    rfl
  · obtain ⟨amb, Ho, v_team_, team_, v_number_, number_, rfl, z, d_team_, d_number_, hw⟩ := h
    refine ⟨_, pss_cons (ps_if (PW.pt (pw_or (pt_cmpR (op_lt) (pv 1) (pe_int) (nomark _)) (pw_or1 (pt_cmpR (op_ge) (pv 1) (pe_callB (zlen (K := K) rfl) (by rfl) m_len (by decide +kernel) (pa_cons (pv 0) (pa_nil))) (nomark _))))) (pss_cons (zps_raise (K := K) rfl rfl (takes_of rfl rfl rfl rfl) xx_NoHand gc_NoHand kk_NoHand bb_NoHand tt_NoHand (by rfl)) (pss_nil)) (pss_nil)) (pss_cons (ps_ret (pe_ix (zix_list (K := K) rfl) (pv 0) (pv 1) (fun _ _ => rfl))) (pss_nil)), ?_⟩
    obtain rfl := d_int d_number_
    refine y_ifS ?_
    refine y_or ?_
    refine y_test ?_
    refine y_op ?_
    refine y_var rfl ?_
    refine y_c ?_
    refine y_i0 ?_
    refine ⟨_, rfl, ?_⟩
    refine w_orP (a := (decide (number_ < (0 : Int)))) (decide (number_ ≥ ((team_).length : Int))) (fun hb hq => ?_) ?_
    · refine y_test ?_
      refine y_op ?_
      refine y_var rfl ?_
      refine y_cb ?_
      refine y_cons ?_
      refine y_var rfl ?_
      refine y_nil ?_
      refine y_len (LV.of d_team_) z ?_
      refine y_i0 ?_
      refine ⟨_, rfl, ?_⟩
      exact hq
    refine y_cases hw (fun hb hw => ?_) (fun hb hw => ?_)
    · refine y_raise ?_
      exact exP_er (run_ret hw) _ _ (Same.refl _) z rfl
    · refine y_nxS ?_
      refine y_ret ?_
      refine y_op ?_
      refine y_var rfl ?_
      refine y_var rfl ?_
      refine y_ixL (LV.of d_team_) z hw (fun t1 w d2 hw => ?_)
      exact (exP_ok (run_ret hw)) _ _ _ (Same.refl _) z d2
def sp_Works_how (K : PySem.W.Frag) (cl tb : Nat → Addr) : Sp := fun vs H Q E => ∃ (amb : Grp) (Ho : Hp) (v0 : V) (x0 : ObWorks) (v1 : V) (x1 : Int), vs = [v0, v1] ∧ Zs amb H Ho ∧ Z.D K Ho v0 x0 ∧ Z.D K Ho v1 x1 ∧ (m_Works_how x0 x1).run (ExP (fun r => ∀ v H' Ho', Same Ho Ho' → Zs amb H' Ho' → Z.D K Ho' v r → Q v H') fun e => ∀ H' Ho', Same Ho Ho' → Zs amb H' Ho' → e.arg = .none → E (.ref (cl e.cls)) none H')
abbrev s_Works_how : Stmt := inClass (topS 29) 5
theorem sc_Works_how : FnScope ["self", "hand"] ["self", "hand"] (defScope s_Works_how) := ⟨rfl, rfl, rfl, by decide +kernel, rfl, by decide +kernel, by decide +kernel⟩
theorem ok_Works_how {f : Addr} {fd : FuncData} (F : Fun K "how" "Works.how" s_Works_how f fd) {q_Works q_Hand : Addr} {f_hand_of_D : Addr} {fd_hand_of_D : FuncData} (c_hand_of_D : Cal P w K mg base (L2.CX P w) "hand_of" ["team", "number"] 1 (sp_hand_of_D K cl tb) f_hand_of_D fd_hand_of_D) (cf_Works : CF K q_Works "Works" ns_Works) (cf_Hand : CF K q_Hand "Hand" ns_Hand) :
    FnOk P w K mg base (L2.CX P w) 2 f fd ["self", "hand"] (sp_Works_how K cl tb) := by
  refine F.okX sc_Works_how (fun vs H Q E h => ?_) (fun cdv A outer s H vs Q E hr h => ?_)
  · obtain ⟨amb, Ho, v_self_, self_, v_hand_, hand_, rfl, _⟩ := h
    rfl
  · obtain ⟨amb, Ho, v_self_, self_, v_hand_, hand_, rfl, z, d_self_, d_hand_, hw⟩ := h
    refine ⟨_, pss_cons (ps_ret (zpe_fld (K := K) rfl ((by exact (pe_callS c_hand_of_D.ok (hr.mono (by decide)) (by rfl) c_hand_of_D.g c_hand_of_D.kp c_hand_of_D.b (fun σ => passAt (takes_of rfl rfl rfl rfl) σ) (pa_cons (zpe_fld (K := K) rfl (pv 0) rfl) (pa_cons (pv 1) (pa_nil)))))) rfl)) (pss_nil), ?_⟩
    obtain rfl := d_int d_hand_
    refine y_ret ?_
    refine y_fld ?_
    refine y_callS ?_
    refine y_cons ?_
    refine y_fld ?_
    refine y_var rfl ?_
    refine o_fldD (i := 1) (x := self_) (w := self_.team) cf_Works d_self_ rfl z rfl rfl (fun w d1 => ?_)
    refine y_cons ?_
    refine y_var rfl ?_
    refine y_nil ?_
    refine ⟨amb, _, _, _, _, _, rfl, z, d1, (Dq.int _), ?_⟩
    refine exm_mono (run_exm hw) (fun t2 hw v H Ho e z d3 => ?_) (fun er hw H Ho e z her => ?_)
    rotate_left
    · exact exP_er (run_ret hw) _ _ ((Same.refl _).trans e) z her
    replace d_self_ := D.mo d_self_ e
    have es5 := (Same.refl _).trans e
    refine o_fldD (i := 4) (x := t2) (w := t2.way) cf_Hand d3 rfl z rfl rfl (fun w d6 => ?_)
    first | obtain rfl := d_str d6 | cases d_str d6
    exact (exP_ok (run_ret hw)) _ _ _ es5 z (Dq.str _)
def sp_Replay_is_over (K : PySem.W.Frag) (cl tb : Nat → Addr) : Sp := fun vs H Q E => ∃ (amb : Grp) (Ho : Hp) (v0 : V) (x0 : ObReplay) (v1 : V) (x1 : Int), vs = [v0, v1] ∧ Zs amb H Ho ∧ BC_Replay K amb Ho v0 x0 ∧ Z.D K Ho v1 x1 ∧ (m_Replay_is_over x0 x1).run (ExP (fun r => ∀ v H' Ho', Same Ho Ho' → Zs amb H' Ho' → Z.D K Ho' v r → Q v H') fun e => ∀ H' Ho', Same Ho Ho' → Zs amb H' Ho' → e.arg = .none → E (.ref (cl e.cls)) none H')
abbrev s_Replay_is_over : Stmt := inClass (topS 12) 1
theorem sc_Replay_is_over : FnScope ["self", "hand"] ["self", "hand"] (defScope s_Replay_is_over) := ⟨rfl, rfl, rfl, by decide +kernel, rfl, by decide +kernel, by decide +kernel⟩
theorem ok_Replay_is_over {f : Addr} {fd : FuncData} (F : Fun K "is_over" "Replay.is_over" s_Replay_is_over f fd) {q_Replay q_Works : Addr} {f_Works_how : Addr} {fd_Works_how : FuncData} (c_Works_how : MCal P w K mg base (L2.CX P w) q_Works "how" ["self", "hand"] 2 (sp_Works_how K cl tb) f_Works_how fd_Works_how) (cf_Replay : CF K q_Replay "Replay" ns_Replay) (cf_Works : CF K q_Works "Works" ns_Works) :
    FnOk P w K mg base (L2.CX P w) 3 f fd ["self", "hand"] (sp_Replay_is_over K cl tb) := by
  refine F.okX sc_Replay_is_over (fun vs H Q E h => ?_) (fun cdv A outer s H vs Q E hr h => ?_)
  · obtain ⟨amb, Ho, v_self_, self_, v_hand_, hand_, rfl, _⟩ := h
    rfl
  · obtain ⟨amb, Ho, v_self_, self_, v_hand_, hand_, rfl, z, d_self_, d_hand_, hw⟩ := h
    refine ⟨_, pss_cons (ps_ret (pe_or (pe_cmpR (op_eq) (pe_ix (zix_list (K := K) rfl) (zpe_fld (K := K) rfl (pv 0) rfl) (pv 1) (fun _ _ => rfl)) (pe_ix (zix_list (K := K) rfl) (zpe_fld (K := K) rfl (pv 0) rfl) (pv 1) (fun _ _ => rfl)) (nomark _)) (pe_one (pe_cmpR (op_ne) ((by exact (pe_methS' (zpe_fld (K := K) rfl (pv 0) rfl) cf_Works.cl c_Works_how.me c_Works_how.ok (hr.mono (by decide)) c_Works_how.b (fun σ => passAt (takes_of rfl rfl rfl rfl) σ) (pa_cons (pv 1) (pa_nil))))) (pe_str) (nomark _))))) (pss_nil), ?_⟩
    obtain rfl := d_int d_hand_
    have dB_self := d_self_
    obtain ⟨g_self_, d_self_, mg_self_⟩ := d_self_
    refine OC_Replay.rd cf_Replay d_self_ mg_self_ (fun a_self dx_self v_self__going_ v_self__due_ v_self__ties_ v_self__gone_ g_self__going_ g_self__due_ g_self__ties_ g_self__gone_ hv d_self__going_ d_self__due_ d_self__ties_ d_self__gone_ mi_self mg_self__going_ mg_self__due_ mg_self__ties_ mg_self__gone_ => ?_)
    cases hv
    have d_self__going_ : BC_Works K amb Ho v_self__going_ _ := ⟨_, d_self__going_, mg_self__going_⟩
    refine h_nmG (P := fun x => BC_Works K amb Ho v_self__going_ x) hw d_self__going_ (fun self__going_ d_self__going_ hw => ?_)
    have d_self__due_ : LV K amb Ho v_self__due_ _ := OL.lv d_self__due_ mg_self__due_
    refine h_nmG (P := fun x => LV K amb Ho v_self__due_ x) hw d_self__due_ (fun self__due_ d_self__due_ hw => ?_)
    have d_self__ties_ : LV K amb Ho v_self__ties_ _ := OL.lv d_self__ties_ mg_self__ties_
    refine h_nmG (P := fun x => LV K amb Ho v_self__ties_ x) hw d_self__ties_ (fun self__ties_ d_self__ties_ hw => ?_)
    have d_self__gone_ : LV K amb Ho v_self__gone_ _ := OL.lv d_self__gone_ mg_self__gone_
    refine h_nmG (P := fun x => LV K amb Ho v_self__gone_ x) hw d_self__gone_ (fun self__gone_ d_self__gone_ hw => ?_)
    refine y_ret ?_
    refine y_orV ?_
    refine y_op ?_
    refine y_op ?_
    refine y_fld ?_
    refine y_var rfl ?_
    refine o_fld (i := 3) cf_Replay (fun r h => mgE r (mi_self r h)) z rfl rfl ?_
    refine y_var rfl ?_
    refine y_ixL (LV.sub d_self__gone_ mgE) z hw (fun t1 w d2 hw => ?_)
    first | obtain rfl := d_int d2 | cases d_int d2
    refine y_op ?_
    refine y_fld ?_
    refine y_var rfl ?_
    refine o_fld (i := 1) cf_Replay (fun r h => mgE r (mi_self r h)) z rfl rfl ?_
    refine y_var rfl ?_
    refine y_ixL (LV.sub d_self__due_ mgE) z hw (fun t3 w d4 hw => ?_)
    first | obtain rfl := d_int d4 | cases d_int d4
    refine y_eqi ?_
    refine ⟨_, rfl, ?_⟩
    refine w_or2V hw (fun hb hw => ?_) (fun hb hw => ?_)
    · exact (exP_ok (run_ret hw)) _ _ _ (Same.refl _) z (Dq.bl _)
    · refine y_op ?_
      refine y_meth ?_
      refine y_fld ?_
      refine y_var rfl ?_
      refine o_fld (i := 0) cf_Replay (fun r h => mgE r (mi_self r h)) z rfl rfl ?_
      refine BC_Works.met cf_Works d_self__going_ mgE z (by decide +kernel) ?_
      refine y_cons ?_
      refine y_var rfl ?_
      refine y_nil ?_
      refine ⟨[], _, _, _, _, _, rfl, z.all, (BC_Works.rd (BC_Works.sub d_self__going_ mgE) z), (Dq.int _), ?_⟩
      refine exm_mono (run_exm hw) (fun t5 hw v H Ho10 e8 z9 d6 => ?_) (fun er hw H Ho10 e8 z9 her => ?_)
      rotate_left
      · replace z := z.unlend e8 z9
        have e := Same.refl Ho
        exact exP_er (run_ret hw) _ _ ((Same.refl _).trans e) z her
      replace z := z.unlend e8 z9
      first | obtain rfl := d_str d6 | cases d_str d6
      refine y_c ?_
      refine y_nes ?_
      exact (exP_ok (run_ret hw)) _ _ _ (Same.refl _) z (Dq.bl _)
def sp_Replay_holder (K : PySem.W.Frag) (cl tb : Nat → Addr) : Sp := fun vs H Q E => ∃ (amb : Grp) (Ho : Hp) (v0 : V) (x0 : ObReplay) (v1 : V) (x1 : Int), vs = [v0, v1] ∧ Zs amb H Ho ∧ BC_Replay K amb Ho v0 x0 ∧ Z.D K Ho v1 x1 ∧ (m_Replay_holder x0 x1).run fun r => ∀ v H' Ho', Same Ho Ho' → Zs amb H' Ho' → Z.D K Ho' v r → Q v H'
abbrev s_Replay_holder : Stmt := inClass (topS 12) 2
theorem sc_Replay_holder : FnScope ["self", "hand", "here", "tie"] ["self", "hand"] (defScope s_Replay_holder) := ⟨rfl, rfl, rfl, by decide +kernel, rfl, by decide +kernel, by decide +kernel⟩
theorem ok_Replay_holder {f : Addr} {fd : FuncData} (F : Fun K "holder" "Replay.holder" s_Replay_holder f fd) {q_Replay : Addr} (m_min : mg "min" = none) (cf_Replay : CF K q_Replay "Replay" ns_Replay) :
    FnOk P w K mg base CX0 1 f fd ["self", "hand"] (sp_Replay_holder K cl tb) := by
  refine F.ok sc_Replay_holder (fun vs H Q E h => ?_) (fun cdv A outer s H vs Q E hr h => ?_)
  · obtain ⟨amb, Ho, v_self_, self_, v_hand_, hand_, rfl, _⟩ := h
    rfl
  · obtain ⟨amb, Ho, v_self_, self_, v_hand_, hand_, rfl, z, d_self_, d_hand_, hw⟩ := h
    refine ⟨_, pss_cons (ps_setLc (i := 2) (own := [("tie", 3)]) rfl sc_Replay_holder.nd rfl rfl (sw_true rfl rfl rfl (by decide +kernel)) (zpi_list (K := K) rfl (zpe_fld (K := K) rfl (pv 0) rfl)) (blkOk_by (N := ["self", "hand", "here", "tie"]) (sc := defScope s_Replay_holder) (by decide +kernel)) (fun _ _ _ _ _ => pg_name (i := 3) sc_Replay_holder.nd rfl (Or.inl rfl)) (fun _ _ _ _ _ => pts_one (pt_cmpR (zop_eqD (K := K) rfl hr.units) (pe_slice (zsl_tup (K := K) rfl) (pv 3) (po_some (pe_int)) po_none) (pe_tup (pa_cons (pv 1) (pa_cons (pe_ix (zix_list (K := K) rfl) (zpe_fld (K := K) rfl (pv 0) rfl) (pv 1) (fun _ _ => rfl)) (pa_nil)))) (nomark _))) (fun _ _ _ _ _ => pv 3)) (pss_cons (ps_ret (pe_callBK (zmn4 (K := K) rfl rfl hr.units) (by rfl) m_min (by decide +kernel) (pa_cons (pe_lc (own := [("tie", 3)]) rfl sc_Replay_holder.nd (zpi_list (K := K) rfl (pv 2)) (blkOk_by (N := ["self", "hand", "here", "tie"]) (sc := defScope s_Replay_holder) (by decide +kernel)) (fun _ _ _ _ _ => pg_name (i := 3) sc_Replay_holder.nd rfl (Or.inl rfl)) (fun _ _ _ _ _ => pts_one (pt_cmpR (op_le) (pe_ix (zix_list (K := K) rfl) (zpe_fld (K := K) rfl (pv 0) rfl) (pe_ix (zix_tup (K := K) rfl) (pv 3) (pe_int) (fun _ _ => rfl)) (fun _ _ => rfl)) (pe_ix (zix_tup (K := K) rfl) (pv 3) (pe_int) (fun _ _ => rfl)) (nomark _))) (fun _ _ _ _ _ => pv 3)) (pa_nil)) (pk_cons (pe_non) pk_nil))) (pss_nil)), ?_⟩
    obtain rfl := d_int d_hand_
    have dB_self := d_self_
    obtain ⟨g_self_, d_self_, mg_self_⟩ := d_self_
    refine OC_Replay.rd cf_Replay d_self_ mg_self_ (fun a_self dx_self v_self__going_ v_self__due_ v_self__ties_ v_self__gone_ g_self__going_ g_self__due_ g_self__ties_ g_self__gone_ hv d_self__going_ d_self__due_ d_self__ties_ d_self__gone_ mi_self mg_self__going_ mg_self__due_ mg_self__ties_ mg_self__gone_ => ?_)
    cases hv
    have d_self__going_ : BC_Works K amb Ho v_self__going_ _ := ⟨_, d_self__going_, mg_self__going_⟩
    refine h_nmG (P := fun x => BC_Works K amb Ho v_self__going_ x) hw d_self__going_ (fun self__going_ d_self__going_ hw => ?_)
    have d_self__due_ : LV K amb Ho v_self__due_ _ := OL.lv d_self__due_ mg_self__due_
    refine h_nmG (P := fun x => LV K amb Ho v_self__due_ x) hw d_self__due_ (fun self__due_ d_self__due_ hw => ?_)
    have d_self__ties_ : LV K amb Ho v_self__ties_ _ := OL.lv d_self__ties_ mg_self__ties_
    refine h_nmG (P := fun x => LV K amb Ho v_self__ties_ x) hw d_self__ties_ (fun self__ties_ d_self__ties_ hw => ?_)
    have d_self__gone_ : LV K amb Ho v_self__gone_ _ := OL.lv d_self__gone_ mg_self__gone_
    refine h_nmG (P := fun x => LV K amb Ho v_self__gone_ x) hw d_self__gone_ (fun self__gone_ d_self__gone_ hw => ?_)
    refine l_asg (fun v => [_, _, some v, _]) (fun _ => rfl) ?_
    refine y_lc ?_
    refine k_iList ?_
    refine y_fld ?_
    refine y_var rfl ?_
    refine o_fld (i := 2) cf_Replay (fun r h => mgE r (mi_self r h)) z rfl rfl ?_
    refine k_srcL (r0 := amb) (LV.sub d_self__ties_ mgE) mgE z (fun J T => ?_)
    refine y_lcG z mgE T hw (fun r1 tie_ v_tie_ H Ho N N' e z d_tie_ hw => ?_) (fun t12 H Ho e hw p9 ws10 z d11 => ?_)
    · replace z : Zs ([r1] ++ amb) H Ho := z
      replace dB_self := BC_Replay.mo dB_self e
      replace d_self__due_ := LV.mo d_self__due_ e
      replace d_self__going_ := BC_Works.mo d_self__going_ e
      replace d_self__gone_ := LV.mo d_self__gone_ e
      replace d_self__ties_ := LV.mo d_self__ties_ e
      have es2 := (Same.refl _).trans e
      refine y_gname (σ' := [some (V.ref a_self), some (V.int hand_), none, some v_tie_]) rfl ?_
      refine ⟨rfl, ?_⟩
      refine y_test ?_
      refine y_op ?_
      refine y_sl ?_
      refine y_var rfl ?_
      refine y_part ?_
      refine y_c ?_
      refine ⟨_, rfl, ?_⟩
      refine y_noPart ?_
      refine y_slT (y := (tie_.c, tie_.d)) d_tie_ z ⟨_, rfl, by show ¬ (HT.sIx 4 0 (some (2 : Int)) = 0 ∧ HT.sIx 4 4 none = 4); decide, by rfl⟩ (fun p H Ho e z d3 => ?_)
      replace dB_self := BC_Replay.mo dB_self e
      replace d_self__due_ := LV.mo d_self__due_ e
      replace d_self__going_ := BC_Works.mo d_self__going_ e
      replace d_self__gone_ := LV.mo d_self__gone_ e
      replace d_self__ties_ := LV.mo d_self__ties_ e
      replace d_tie_ := D.mo d_tie_ e
      have es4 := (Same.refl _).trans e
      refine k_tup ?_
      refine y_cons ?_
      refine y_var rfl ?_
      refine y_cons ?_
      refine y_op ?_
      refine y_fld ?_
      refine y_var rfl ?_
      refine o_fld (i := 3) cf_Replay (fun r h => (mgS mgE) r (mi_self r h)) z rfl rfl ?_
      refine y_var rfl ?_
      refine y_ixL (LV.sub d_self__gone_ (mgS mgE)) z hw (fun t5 w d6 hw => ?_)
      first | obtain rfl := d_int d6 | cases d_int d6
      refine y_nil ?_
      refine k_tupk (K := K) (x := (hand_, t5)) z (by show 2 ≤ sizeLine; decide) _ rfl (DqAll.cons (Dq.int _) (DqAll.cons (Dq.int _) DqAll.nil)) (fun p H Ho e z d7 => ?_)
      replace dB_self := BC_Replay.mo dB_self e
      replace d_self__due_ := LV.mo d_self__due_ e
      replace d_self__going_ := BC_Works.mo d_self__going_ e
      replace d_self__gone_ := LV.mo d_self__gone_ e
      replace d_self__ties_ := LV.mo d_self__ties_ e
      replace d_tie_ := D.mo d_tie_ e
      replace d3 := D.mo d3 e
      have es8 := es4.trans e
      refine y_eqD (D.mo d3 z.le) (D.mo d7 z.le) hw.1 ?_
      replace hw := (run_gd hw).2
      refine ⟨_, rfl, ?_⟩
      refine w_two (fun hb => ?_) (fun hb => ?_)
      · replace hw := run_itT (run_ret hw) hb
        refine y_var rfl ?_
        exact (run_ret hw) _ _ _ es8 z d_tie_
      · exact run_itF (run_ret hw) hb _ _ es8 z
    replace dB_self := BC_Replay.mo dB_self e
    replace d_self__due_ := LV.mo d_self__due_ e
    replace d_self__going_ := BC_Works.mo d_self__going_ e
    replace d_self__gone_ := LV.mo d_self__gone_ e
    replace d_self__ties_ := LV.mo d_self__ties_ e
    have es13 := (Same.refl _).trans e
    replace z : Zs ([(p9, HO.lst ws10)] ++ amb) H Ho := z
    have o14 := OL.mk (p := p9) d11
    refine l_fr o14 z (fun Ho e z d15 => ?_)
    replace dB_self := BC_Replay.mo dB_self e
    replace d_self__due_ := LV.mo d_self__due_ e
    replace d_self__going_ := BC_Works.mo d_self__going_ e
    replace d_self__gone_ := LV.mo d_self__gone_ e
    replace d_self__ties_ := LV.mo d_self__ties_ e
    have es16 := es13.trans e
    refine l_d (K := K) (Ho := Ho) hw d15 (fun here_ v_here_ d_here_ hw => ?_)
    refine y_ret ?_
    refine y_ckw ?_
    refine y_cons ?_
    refine y_lc ?_
    refine k_iList ?_
    refine y_var rfl ?_
    refine k_srcL (r0 := ([] : Grp)) (LV.of d_here_) mgN z (fun J T => ?_)
    refine y_lcG z mgN T hw (fun r17 tie_ v_tie_ H Ho N N' e z d_tie_ hw => ?_) (fun t26 H Ho e hw p23 ws24 z d25 => ?_)
    · replace z : Zs ([r17] ++ amb) H Ho := z
      replace d_here_ := D.mo d_here_ e
      replace dB_self := BC_Replay.mo dB_self e
      replace d_self__due_ := LV.mo d_self__due_ e
      replace d_self__going_ := BC_Works.mo d_self__going_ e
      replace d_self__gone_ := LV.mo d_self__gone_ e
      replace d_self__ties_ := LV.mo d_self__ties_ e
      have es18 := es16.trans e
      refine y_gname (σ' := [some (V.ref a_self), some (V.int hand_), some v_here_, some v_tie_]) rfl ?_
      refine ⟨rfl, ?_⟩
      refine y_test ?_
      refine y_op ?_
      refine y_op ?_
      refine y_fld ?_
      refine y_var rfl ?_
      refine o_fld (i := 3) cf_Replay (fun r h => (mgS mgE) r (mi_self r h)) z rfl rfl ?_
      refine y_op ?_
      refine y_var rfl ?_
      refine y_c ?_
      refine y_ixT (y := tie_.a) d_tie_ z ⟨_, rfl, rfl⟩ (fun w d19 => ?_)
      first | obtain rfl := d_int d19 | cases d_int d19
      refine y_ixL (LV.sub d_self__gone_ (mgS mgE)) z hw (fun t20 w d21 hw => ?_)
      first | obtain rfl := d_int d21 | cases d_int d21
      refine y_op ?_
      refine y_var rfl ?_
      refine y_c ?_
      refine y_ixT (y := tie_.b) d_tie_ z ⟨_, rfl, rfl⟩ (fun w d22 => ?_)
      first | obtain rfl := d_int d22 | cases d_int d22
      refine y_i0 ?_
      refine ⟨_, rfl, ?_⟩
      refine w_two (fun hb => ?_) (fun hb => ?_)
      · replace hw := run_itT (run_ret hw) hb
        refine y_var rfl ?_
        exact (run_ret hw) _ _ _ (Same.refl _) z d_tie_
      · exact run_itF (run_ret hw) hb _ _ (Same.refl _) z
    replace d_here_ := D.mo d_here_ e
    replace dB_self := BC_Replay.mo dB_self e
    replace d_self__due_ := LV.mo d_self__due_ e
    replace d_self__going_ := BC_Works.mo d_self__going_ e
    replace d_self__gone_ := LV.mo d_self__gone_ e
    replace d_self__ties_ := LV.mo d_self__ties_ e
    have es27 := es16.trans e
    replace z : Zs ([(p23, HO.lst ws24)] ++ amb) H Ho := z
    have o28 := OL.mk (p := p23) d25
    refine y_nil ?_
    refine y_cons ?_
    refine y_c ?_
    refine y_nil ?_
    refine y_mn4 (OL.lv o28 mg0) z (fun u29 d30 => ?_)
    replace z : Zs amb _ _ := z.go [[(p23, HO.lst ws24)]] amb []
    exact (run_ret hw) _ _ _ es27 z d30
def sp_hand_of (K : PySem.W.Frag) (cl tb : Nat → Addr) : Sp := fun vs H Q E => ∃ (amb : Grp) (Ho : Hp) (v0 : V) (x0 : (List ObHand)) (v1 : V) (x1 : Int), vs = [v0, v1] ∧ Zs amb H Ho ∧ BLo OC_Hand K amb Ho v0 x0 ∧ Z.D K Ho v1 x1 ∧ (m_hand_of x0 x1).run (ExP (fun r => ∀ v H' Ho', Same Ho Ho' → Zs amb H' Ho' → ElAt amb v0 r v → Q v H') fun e => ∀ H' Ho', Same Ho Ho' → Zs amb H' Ho' → e.arg = .none → E (.ref (cl e.cls)) none H')
abbrev s_hand_of : Stmt := topS 26
theorem sc_hand_of : FnScope ["team", "number"] ["team", "number"] (defScope s_hand_of) := ⟨rfl, rfl, rfl, by decide +kernel, rfl, by decide +kernel, by decide +kernel⟩
theorem ok_hand_of {f : Addr} {fd : FuncData} (F : Fun K "hand_of" "hand_of" s_hand_of f fd) (m_len : mg "len" = none) (xx_NoHand : PySem.W.excIn K (cl 0) [.type "ValueError", .type "Exception", .type "BaseException", .type "object"] "ValueError.__new__" = true) (gc_NoHand : mg "NoHand" = some (.ref (cl 0))) (kk_NoHand : PySem.W.keepIn K (.ref (cl 0)) = true) (bb_NoHand : PySem.W.subIn K (.ref (cl 0)) (.type "BaseException") = some true) (tt_NoHand : PySem.W.typeIn K (.ref (cl 0)) = some (.type "type")) :
    FnOk P w K mg base (L2.CX P w) 1 f fd ["team", "number"] (sp_hand_of K cl tb) := by
  refine F.okX sc_hand_of (fun vs H Q E h => ?_) (fun cdv A outer s H vs Q E hr h => ?_)
  · obtain ⟨amb, Ho, v_team_, team_, v_number_, number_, rfl, _⟩ := h
    rfl
  · obtain ⟨amb, Ho, v_team_, team_, v_number_, number_, rfl, z, d_team_, d_number_, hw⟩ := h
    refine ⟨_, pss_cons (ps_if (PW.pt (pw_or (pt_cmpR (op_lt) (pv 1) (pe_int) (nomark _)) (pw_or1 (pt_cmpR (op_ge) (pv 1) (pe_callB (zlen (K := K) rfl) (by rfl) m_len (by decide +kernel) (pa_cons (pv 0) (pa_nil))) (nomark _))))) (pss_cons (zps_raise (K := K) rfl rfl (takes_of rfl rfl rfl rfl) xx_NoHand gc_NoHand kk_NoHand bb_NoHand tt_NoHand (by rfl)) (pss_nil)) (pss_nil)) (pss_cons (ps_ret (pe_ix (zix_list (K := K) rfl) (pv 0) (pv 1) (fun _ _ => rfl))) (pss_nil)), ?_⟩
    obtain rfl := d_int d_number_
    refine y_ifS ?_
    refine y_or ?_
    refine y_test ?_
    refine y_op ?_
    refine y_var rfl ?_
    refine y_c ?_
    refine y_i0 ?_
    refine ⟨_, rfl, ?_⟩
    refine w_orJ hw (fun (s : Bool) (v : Bool) (H2 : Hp) => ∃ (Ho2 : Hp), Same Ho Ho2 ∧ Zs amb H2 Ho2 ∧ v = s) (fun hb hw => ?_) (fun hb hw => ?_) ?_
    · exact (run_ret hw) _ _ ⟨_, (Same.refl _), z, rfl⟩
    · refine y_test ?_
      refine y_op ?_
      refine y_var rfl ?_
      refine y_cb ?_
      refine y_cons ?_
      refine y_var rfl ?_
      refine y_nil ?_
      refine y_lenLo (BLo.sub d_team_ mgE) z ?_
      refine y_i0 ?_
      refine ⟨_, rfl, ?_⟩
      exact (run_ret hw) _ _ ⟨_, (Same.refl _), z, rfl⟩
    rintro t1 v H ⟨Ho, e, z, rfl⟩ hw
    replace d_team_ := BLo.mo d_team_ e
    have es4 := (Same.refl _).trans e
    refine y_cases hw (fun hb hw => ?_) (fun hb hw => ?_)
    · refine y_raise ?_
      exact exP_er (run_ret hw) _ _ es4 z rfl
    · refine y_nxS ?_
      refine y_ret ?_
      refine y_op ?_
      refine y_var rfl ?_
      refine y_var rfl ?_
      refine y_ixLo d_team_ mgE z hw (fun t5 u6 el7 be8 hw => ?_)
      exact (exP_ok (run_ret hw)) _ _ _ es4 z el7
def sp_do_touch (K : PySem.W.Frag) (cl tb : Nat → Addr) : Sp := fun vs H Q E => ∃ (amb : Grp) (Ho : Hp) (v0 : V) (x0 : ObHand) (g0 : Grp) (v1 : V) (x1 : (List Int)) (g1 : Grp), vs = [v0, v1] ∧ Zs (g0 ++ (g1 ++ amb)) H Ho ∧ OC_Hand K Ho v0 x0 g0 ∧ OL K Ho v1 x1 g1 ∧ (m_do_touch x0 x1).run fun r => ∀ v h0 h1 H' Ho', Same Ho Ho' → Zs (h0 ++ (h1 ++ amb)) H' Ho' → Z.D K Ho' v r.1 → OC_Hand K Ho' v0 r.2.1 h0 → OL K Ho' v1 r.2.2 h1 → Q v H'
abbrev s_do_touch : Stmt := topS 24
theorem sc_do_touch : FnScope ["hand", "shared", "row", "box", "cell", "found"] ["hand", "shared"] (defScope s_do_touch) := ⟨rfl, rfl, rfl, by decide +kernel, rfl, by decide +kernel, by decide +kernel⟩
theorem ok_do_touch {f : Addr} {fd : FuncData} (F : Fun K "do_touch" "do_touch" s_do_touch f fd) {q_Hand : Addr} {f_worth_now : Addr} {fd_worth_now : FuncData} (c_worth_now : Cal P w K mg base CX0 "worth_now" ["held", "told"] 4 (sp_worth_now K cl tb) f_worth_now fd_worth_now) {f_put_in : Addr} {fd_put_in : FuncData} (c_put_in : Cal P w K mg base CX0 "put_in" ["hand", "box", "number"] 1 (sp_put_in K cl tb) f_put_in fd_put_in) (cf_Hand : CF K q_Hand "Hand" ns_Hand) :
    FnOk P w K mg base CX0 5 f fd ["hand", "shared"] (sp_do_touch K cl tb) := by
  refine F.ok sc_do_touch (fun vs H Q E h => ?_) (fun cdv A outer s H vs Q E hr h => ?_)
  · obtain ⟨amb, Ho, v_hand_, hand_, g_hand_, v_shared_, shared_, g_shared_, rfl, _⟩ := h
    rfl
  · obtain ⟨amb, Ho, v_hand_, hand_, g_hand_, v_shared_, shared_, g_shared_, rfl, z, d_hand_, d_shared_, hw⟩ := h
    refine ⟨_, pss_cons (ps_set (i := 2) sc_do_touch.nd rfl (Or.inl rfl) (pe_ix (zix_list (K := K) rfl) (zpe_fld (K := K) rfl (pv 0) rfl) (zpe_fld (K := K) rfl (pv 0) rfl) (fun _ _ => rfl))) (pss_cons (zps_fldaug (K := K) rfl (pv 0) pe_int in_add) (pss_cons (ps_if (pt_cmpR (zop_eqD (K := K) rfl hr.units) (pe_ix (zix_any (K := K) rfl) (pv 2) (pe_int) (fun _ _ => rfl)) (pe_str) (nomark _)) (pss_cons (ps_asg (pe_call c_worth_now.ok (hr.mono (by decide)) (by rfl) c_worth_now.g c_worth_now.kp c_worth_now.b .nil pass0 (pa_cons (zpe_fld (K := K) rfl (pv 0) rfl) (pa_cons (pe_ix (zix_any (K := K) rfl) (pv 2) (pe_int) (fun _ _ => rfl)) (pa_nil)))) (pg_sub (pv 1) (pe_ix (zix_any (K := K) rfl) (pv 2) (pe_int) (fun _ _ => rfl)) set_list)) (pss_cons (ps_ret (pe_tup (pa_cons (pe_str) (pa_cons (pe_ix (zix_any (K := K) rfl) (pv 2) (pe_int) (fun _ _ => rfl)) (pa_cons (pe_non) (pa_cons (pe_ix (zix_list (K := K) rfl) (pv 1) (pe_ix (zix_any (K := K) rfl) (pv 2) (pe_int) (fun _ _ => rfl)) (fun _ _ => rfl)) (pa_nil))))))) (pss_nil))) (pss_nil)) (pss_cons (ps_par (i := 3) (j := 4) rfl sc_do_touch.nd rfl rfl (by decide) rfl rfl (pa_cons (pe_ix (zix_any (K := K) rfl) (pv 2) (pe_int) (fun _ _ => rfl)) (pa_cons (pe_ix (zix_any (K := K) rfl) (pv 2) (pe_int) (fun _ _ => rfl)) (pa_nil))) (by rfl)) (pss_cons (ps_set (i := 5) sc_do_touch.nd rfl (Or.inl rfl) (pe_ix (zix_list (K := K) rfl) (pv 1) (pv 4) (fun _ _ => rfl))) (pss_cons (ps_if (pt_cmpR (zop_eqD (K := K) rfl hr.units) (pe_ix (zix_any (K := K) rfl) (pv 2) (pe_int) (fun _ _ => rfl)) (pe_str) (nomark _)) (pss_cons (ps_expr (pe_call c_put_in.ok (hr.mono (by decide)) (by rfl) c_put_in.g c_put_in.kp c_put_in.b .nil pass0 (pa_cons (pv 0) (pa_cons (pv 3) (pa_cons (pv 5) (pa_nil)))))) (pss_cons (ps_ret (pe_tup (pa_cons (pe_str) (pa_cons (pv 4) (pa_cons (pv 5) (pa_cons (pe_non) (pa_nil))))))) (pss_nil))) (pss_nil)) (pss_cons (ps_asg (pe_call c_worth_now.ok (hr.mono (by decide)) (by rfl) c_worth_now.g c_worth_now.kp c_worth_now.b .nil pass0 (pa_cons (zpe_fld (K := K) rfl (pv 0) rfl) (pa_cons (pe_ix (zix_any (K := K) rfl) (pv 2) (pe_int) (fun _ _ => rfl)) (pa_nil)))) (pg_sub (pv 1) (pv 4) set_list)) (pss_cons (ps_expr (pe_call c_put_in.ok (hr.mono (by decide)) (by rfl) c_put_in.g c_put_in.kp c_put_in.b .nil pass0 (pa_cons (pv 0) (pa_cons (pv 3) (pa_cons (pv 5) (pa_nil)))))) (pss_cons (ps_ret (pe_tup (pa_cons (pe_str) (pa_cons (pv 4) (pa_cons (pv 5) (pa_cons (pe_ix (zix_list (K := K) rfl) (pv 1) (pv 4) (fun _ _ => rfl)) (pa_nil))))))) (pss_nil))))))))), ?_⟩
    refine OC_Hand.op cf_Hand d_hand_ z (fun a_hand dx_hand v_hand__rows_ v_hand__at_ v_hand__held_ v_hand__spoken_ v_hand__way_ g_hand__held_ g_hand__spoken_ hv hg_hand d_hand__rows_ d_hand__at_ d_hand__held_ d_hand__spoken_ d_hand__way_ z => ?_)
    cases hv
    refine h_nmG (P := fun x => Z.D K Ho v_hand__rows_ x) hw d_hand__rows_ (fun hand__rows_ d_hand__rows_ hw => ?_)
    refine h_nmG (P := fun x => Z.D K Ho v_hand__at_ x) hw d_hand__at_ (fun hand__at_ d_hand__at_ hw => ?_)
    obtain rfl := d_int d_hand__at_
    refine h_nmG (P := fun x => OL K Ho v_hand__held_ x g_hand__held_) hw d_hand__held_ (fun hand__held_ d_hand__held_ hw => ?_)
    refine h_nmG (P := fun x => OL K Ho v_hand__spoken_ x g_hand__spoken_) hw d_hand__spoken_ (fun hand__spoken_ d_hand__spoken_ hw => ?_)
    refine h_nmG (P := fun x => Z.D K Ho v_hand__way_ x) hw d_hand__way_ (fun hand__way_ d_hand__way_ hw => ?_)
    obtain rfl := d_str d_hand__way_
    replace z : Zs ([(a_hand, HO.ins q_Hand dx_hand (ns_Hand.zip [v_hand__rows_, (V.int hand__at_), v_hand__held_, v_hand__spoken_, (V.str hand__way_)]))] ++ (g_hand__held_ ++ (g_hand__spoken_ ++ (g_shared_ ++ amb)))) H Ho := z
    refine l_asg (fun v => [_, _, some v, _, _, _]) (fun _ => rfl) ?_
    refine y_op ?_
    refine y_fld ?_
    refine y_var rfl ?_
    refine o_fld (i := 0) cf_Hand mg0 z rfl rfl ?_
    refine y_fld ?_
    refine y_var rfl ?_
    refine o_fld (i := 1) cf_Hand mg0 z rfl rfl ?_
    refine y_ixL (LV.of d_hand__rows_) z hw (fun t2 w d3 hw => ?_)
    refine l_d (K := K) (Ho := Ho) hw d3 (fun row_ v_row_ d_row_ hw => ?_)
    refine y_fldaug ?_
    refine y_var rfl ?_
    refine o_faug (j := 1) cf_Hand z rfl rfl (fun H z => ?_)
    refine h_nmG (P := fun x => Zs ([(a_hand, HO.ins q_Hand dx_hand (ns_Hand.zip (List.set [v_hand__rows_, (V.int hand__at_), v_hand__held_, v_hand__spoken_, (V.str hand__way_)] 1 (V.int x))))] ++ (g_hand__held_ ++ (g_hand__spoken_ ++ (g_shared_ ++ amb)))) H Ho) hw z (fun hand__at_ z hw => ?_)
    replace z : Zs ([(a_hand, HO.ins q_Hand dx_hand (ns_Hand.zip [v_hand__rows_, (V.int hand__at_), v_hand__held_, v_hand__spoken_, (V.str hand__way_)]))] ++ (g_hand__held_ ++ (g_hand__spoken_ ++ (g_shared_ ++ amb)))) H Ho := z
    refine y_ifS ?_
    refine y_test ?_
    refine y_op ?_
    refine y_op ?_
    refine y_var rfl ?_
    refine y_c ?_
    refine y_ixP d_row_ z hw (fun t4 w d5 hw => ?_)
    refine y_c ?_
    refine y_eqD (D.mo d5 z.le) (Dq.str _) hw.1 ?_
    replace hw := (run_gd hw).2
    refine ⟨_, rfl, ?_⟩
    refine y_cases hw (fun hb hw => ?_) (fun hb hw => ?_)
    · refine y_asgG ?_
      refine y_call ?_
      refine y_cons ?_
      refine y_fld ?_
      refine y_var rfl ?_
      refine o_fld (i := 2) cf_Hand mg0 z rfl rfl ?_
      refine y_cons ?_
      refine y_op ?_
      refine y_var rfl ?_
      refine y_c ?_
      refine y_ixP d_row_ z hw (fun t6 w d7 hw => ?_)
      refine y_nil ?_
      refine ⟨([(a_hand, HO.ins q_Hand dx_hand (ns_Hand.zip [v_hand__rows_, (V.int hand__at_), v_hand__held_, v_hand__spoken_, (V.str hand__way_)]))] ++ (g_hand__held_ ++ (g_hand__spoken_ ++ (g_shared_ ++ amb)))), _, _, _, _, _, rfl, z, (OL.lv d_hand__held_ (mgS mg0)), d7, ?_⟩
      refine run_mono3 hw (fun t8 hw v H Ho e z d9 => ?_)
      replace d_hand__held_ := OL.mo d_hand__held_ e
      replace d_hand__rows_ := D.mo d_hand__rows_ e
      replace d_hand__spoken_ := OL.mo d_hand__spoken_ e
      replace d_row_ := D.mo d_row_ e
      replace d_shared_ := OL.mo d_shared_ e
      have es11 := (Same.refl _).trans e
      first | obtain rfl := d_int d9 | cases d_int d9
      refine y_gsub ?_
      refine y_var rfl ?_
      refine y_op ?_
      refine y_var rfl ?_
      refine y_c ?_
      refine y_ixP d_row_ z hw (fun t12 w d13 hw => ?_)
      refine y_fr (β := Int) d13 hw (fun t14 d15 hw => ?_)
      first | obtain rfl := d_int d15 | cases d_int d15
      replace z : Zs (g_shared_ ++ ([(a_hand, HO.ins q_Hand dx_hand (ns_Hand.zip [v_hand__rows_, (V.int hand__at_), v_hand__held_, v_hand__spoken_, (V.str hand__way_)]))] ++ (g_hand__held_ ++ (g_hand__spoken_ ++ amb)))) _ _ := z.go [[(a_hand, HO.ins q_Hand dx_hand (ns_Hand.zip [v_hand__rows_, (V.int hand__at_), v_hand__held_, v_hand__spoken_, (V.str hand__way_)]))], g_hand__held_, g_hand__spoken_, g_shared_] amb [3, 0, 1, 2]
      refine g_sti z d_shared_ (Dq.int _) hw (fun shared_ g_shared_ H z d_shared_ hw => ?_)
      refine y_ret ?_
      refine k_tup ?_
      refine y_cons ?_
      refine y_c ?_
      refine y_cons ?_
      refine y_op ?_
      refine y_var rfl ?_
      refine y_c ?_
      refine y_ixP d_row_ z hw (fun t16 w d17 hw => ?_)
      refine y_fr (β := Int) d17 hw (fun t18 d19 hw => ?_)
      first | obtain rfl := d_int d19 | cases d_int d19
      refine y_cons ?_
      refine y_c ?_
      refine y_cons ?_
      refine y_op ?_
      refine y_var rfl ?_
      refine y_op ?_
      refine y_var rfl ?_
      refine y_c ?_
      refine y_ixP d_row_ z hw (fun t20 w d21 hw => ?_)
      refine y_fr (β := Int) d21 hw (fun t22 d23 hw => ?_)
      first | obtain rfl := d_int d23 | cases d_int d23
      refine y_ixL (OL.lv d_shared_ mg0) z hw (fun t24 w d25 hw => ?_)
      first | obtain rfl := d_int d25 | cases d_int d25
      refine y_nil ?_
      refine k_tupk (K := K) (x := (⟨("store" : Str), t18, (none : (Option Int)), (some t24)⟩ : (P4 Str Int (Option Int) (Option Int)))) z (by show 4 ≤ sizeLine; decide) _ rfl (DqAll.cons (Dq.str _) (DqAll.cons (Dq.int _) (DqAll.cons (show Z.D K Ho V.non (none : (Option Int)) from Dq.non) (DqAll.cons (show Z.D K Ho _ (some t24) from (Dq.int _)) DqAll.nil)))) (fun p H Ho e z d26 => ?_)
      replace d_hand__held_ := OL.mo d_hand__held_ e
      replace d_hand__rows_ := D.mo d_hand__rows_ e
      replace d_hand__spoken_ := OL.mo d_hand__spoken_ e
      replace d_row_ := D.mo d_row_ e
      replace d_shared_ := OL.mo d_shared_ e
      have es27 := es11.trans e
      replace z : Zs ([(a_hand, HO.ins q_Hand dx_hand (ns_Hand.zip [v_hand__rows_, (V.int hand__at_), v_hand__held_, v_hand__spoken_, (V.str hand__way_)]))] ++ (g_hand__held_ ++ (g_hand__spoken_ ++ (g_shared_ ++ amb)))) _ _ := z.go [g_shared_, [(a_hand, HO.ins q_Hand dx_hand (ns_Hand.zip [v_hand__rows_, (V.int hand__at_), v_hand__held_, v_hand__spoken_, (V.str hand__way_)]))], g_hand__held_, g_hand__spoken_] amb [1, 2, 3, 0]
      refine OC_Hand.cl (x := (⟨hand__rows_, hand__at_, hand__held_, hand__spoken_, hand__way_⟩ : ObHand)) cf_Hand d_hand__rows_ (Dq.int _) d_hand__held_ d_hand__spoken_ (Dq.str _) z (fun g28 d29 z => ?_)
      exact (run_ret hw) _ _ _ _ _ es27 z d26 d29 d_shared_
    · refine y_nxS ?_
      refine l_par (fun v w => [_, _, _, some v, some w, _]) (fun _ _ => rfl) ?_
      refine y_cons ?_
      refine y_op ?_
      refine y_var rfl ?_
      refine y_c ?_
      refine y_ixP d_row_ z hw (fun t30 w d31 hw => ?_)
      refine y_fr (β := Str) d31 hw (fun t32 d33 hw => ?_)
      first | obtain rfl := d_str d33 | cases d_str d33
      refine y_cons ?_
      refine y_op ?_
      refine y_var rfl ?_
      refine y_c ?_
      refine y_ixP d_row_ z hw (fun t34 w d35 hw => ?_)
      refine y_fr (β := Int) d35 hw (fun t36 d37 hw => ?_)
      first | obtain rfl := d_int d37 | cases d_int d37
      refine y_nil ?_
      refine l_par2 ?_
      refine l_s hw (fun box_ hw => ?_)
      refine l_i hw (fun cell_ hw => ?_)
      refine l_asg (fun v => [_, _, _, _, _, some v]) (fun _ => rfl) ?_
      refine y_op ?_
      refine y_var rfl ?_
      refine y_var rfl ?_
      refine y_ixL (OL.lv d_shared_ (mgS (mgS (mgS mg0)))) z hw (fun t40 w d41 hw => ?_)
      first | obtain rfl := d_int d41 | cases d_int d41
      refine l_i hw (fun found_ hw => ?_)
      refine y_ifS ?_
      refine y_test ?_
      refine y_op ?_
      refine y_op ?_
      refine y_var rfl ?_
      refine y_c ?_
      refine y_ixP d_row_ z hw (fun t42 w d43 hw => ?_)
      refine y_c ?_
      refine y_eqD (D.mo d43 z.le) (Dq.str _) hw.1 ?_
      replace hw := (run_gd hw).2
      refine ⟨_, rfl, ?_⟩
      refine y_cases hw (fun hb hw => ?_) (fun hb hw => ?_)
      · refine y_drop ?_
        refine y_call ?_
        refine y_cons ?_
        refine y_var rfl ?_
        refine y_cons ?_
        refine y_var rfl ?_
        refine y_cons ?_
        refine y_var rfl ?_
        refine y_nil ?_
        refine OC_Hand.cl (x := (⟨hand__rows_, hand__at_, hand__held_, hand__spoken_, hand__way_⟩ : ObHand)) cf_Hand d_hand__rows_ (Dq.int _) d_hand__held_ d_hand__spoken_ (Dq.str _) z (fun g44 d45 z => ?_)
        refine ⟨(g_shared_ ++ amb), _, _, _, _, _, _, _, _, rfl, z, d45, (Dq.str _), (Dq.int _), ?_⟩
        refine run_mono2 hw (fun t46 hand_ hw v g_hand_ H Ho e z d47 d_hand_ => ?_)
        replace d47 : Z.D K Ho v t46 := d47
        replace d_hand_ : OC_Hand K Ho (V.ref a_hand) hand_ g_hand_ := d_hand_
        replace d_row_ := D.mo d_row_ e
        replace d_shared_ := OL.mo d_shared_ e
        have es49 := (Same.refl _).trans e
        cases d47
        refine OC_Hand.op cf_Hand d_hand_ z (fun a50 dx50 v_hand__rows_ v_hand__at_ v_hand__held_ v_hand__spoken_ v_hand__way_ g_hand__held_ g_hand__spoken_ hv hg_50 d_hand__rows_ d_hand__at_ d_hand__held_ d_hand__spoken_ d_hand__way_ z => ?_)
        cases hv
        refine h_nmG (P := fun x => Z.D K Ho v_hand__rows_ x) hw d_hand__rows_ (fun hand__rows_ d_hand__rows_ hw => ?_)
        refine h_nmG (P := fun x => Z.D K Ho v_hand__at_ x) hw d_hand__at_ (fun hand__at_ d_hand__at_ hw => ?_)
        obtain rfl := d_int d_hand__at_
        refine h_nmG (P := fun x => OL K Ho v_hand__held_ x g_hand__held_) hw d_hand__held_ (fun hand__held_ d_hand__held_ hw => ?_)
        refine h_nmG (P := fun x => OL K Ho v_hand__spoken_ x g_hand__spoken_) hw d_hand__spoken_ (fun hand__spoken_ d_hand__spoken_ hw => ?_)
        refine h_nmG (P := fun x => Z.D K Ho v_hand__way_ x) hw d_hand__way_ (fun hand__way_ d_hand__way_ hw => ?_)
        obtain rfl := d_str d_hand__way_
        replace z : Zs ([(a_hand, HO.ins q_Hand dx50 (ns_Hand.zip [v_hand__rows_, (V.int hand__at_), v_hand__held_, v_hand__spoken_, (V.str hand__way_)]))] ++ (g_hand__held_ ++ (g_hand__spoken_ ++ (g_shared_ ++ amb)))) H Ho := z
        refine y_ret ?_
        refine k_tup ?_
        refine y_cons ?_
        refine y_c ?_
        refine y_cons ?_
        refine y_var rfl ?_
        refine y_cons ?_
        refine y_var rfl ?_
        refine y_cons ?_
        refine y_c ?_
        refine y_nil ?_
        refine k_tupk (K := K) (x := (⟨("load" : Str), cell_, (some found_), (none : (Option Int))⟩ : (P4 Str Int (Option Int) (Option Int)))) z (by show 4 ≤ sizeLine; decide) _ rfl (DqAll.cons (Dq.str _) (DqAll.cons (Dq.int _) (DqAll.cons (show Z.D K Ho _ (some found_) from (Dq.int _)) (DqAll.cons (show Z.D K Ho V.non (none : (Option Int)) from Dq.non) DqAll.nil)))) (fun p H Ho e z d51 => ?_)
        replace d_hand__held_ := OL.mo d_hand__held_ e
        replace d_hand__rows_ := D.mo d_hand__rows_ e
        replace d_hand__spoken_ := OL.mo d_hand__spoken_ e
        replace d_shared_ := OL.mo d_shared_ e
        have es52 := es49.trans e
        refine OC_Hand.cl (x := (⟨hand__rows_, hand__at_, hand__held_, hand__spoken_, hand__way_⟩ : ObHand)) cf_Hand d_hand__rows_ (Dq.int _) d_hand__held_ d_hand__spoken_ (Dq.str _) z (fun g53 d54 z => ?_)
        exact (run_ret hw) _ _ _ _ _ es52 z d51 d54 d_shared_
      · refine y_nxS ?_
        refine y_asgG ?_
        refine y_call ?_
        refine y_cons ?_
        refine y_fld ?_
        refine y_var rfl ?_
        refine o_fld (i := 2) cf_Hand mg0 z rfl rfl ?_
        refine y_cons ?_
        refine y_op ?_
        refine y_var rfl ?_
        refine y_c ?_
        refine y_ixP d_row_ z hw (fun t55 w d56 hw => ?_)
        refine y_nil ?_
        refine ⟨([(a_hand, HO.ins q_Hand dx_hand (ns_Hand.zip [v_hand__rows_, (V.int hand__at_), v_hand__held_, v_hand__spoken_, (V.str hand__way_)]))] ++ (g_hand__held_ ++ (g_hand__spoken_ ++ (g_shared_ ++ amb)))), _, _, _, _, _, rfl, z, (OL.lv d_hand__held_ (mgS mg0)), d56, ?_⟩
        refine run_mono3 hw (fun t57 hw v H Ho e z d58 => ?_)
        replace d_hand__held_ := OL.mo d_hand__held_ e
        replace d_hand__rows_ := D.mo d_hand__rows_ e
        replace d_hand__spoken_ := OL.mo d_hand__spoken_ e
        replace d_row_ := D.mo d_row_ e
        replace d_shared_ := OL.mo d_shared_ e
        have es60 := (Same.refl _).trans e
        first | obtain rfl := d_int d58 | cases d_int d58
        refine y_gsub ?_
        refine y_var rfl ?_
        refine y_var rfl ?_
        replace z : Zs (g_shared_ ++ ([(a_hand, HO.ins q_Hand dx_hand (ns_Hand.zip [v_hand__rows_, (V.int hand__at_), v_hand__held_, v_hand__spoken_, (V.str hand__way_)]))] ++ (g_hand__held_ ++ (g_hand__spoken_ ++ amb)))) _ _ := z.go [[(a_hand, HO.ins q_Hand dx_hand (ns_Hand.zip [v_hand__rows_, (V.int hand__at_), v_hand__held_, v_hand__spoken_, (V.str hand__way_)]))], g_hand__held_, g_hand__spoken_, g_shared_] amb [3, 0, 1, 2]
        refine g_sti z d_shared_ (Dq.int _) hw (fun shared_ g_shared_ H z d_shared_ hw => ?_)
        refine y_drop ?_
        refine y_call ?_
        refine y_cons ?_
        refine y_var rfl ?_
        refine y_cons ?_
        refine y_var rfl ?_
        refine y_cons ?_
        refine y_var rfl ?_
        refine y_nil ?_
        replace z : Zs ([(a_hand, HO.ins q_Hand dx_hand (ns_Hand.zip [v_hand__rows_, (V.int hand__at_), v_hand__held_, v_hand__spoken_, (V.str hand__way_)]))] ++ (g_hand__held_ ++ (g_hand__spoken_ ++ (g_shared_ ++ amb)))) _ _ := z.go [g_shared_, [(a_hand, HO.ins q_Hand dx_hand (ns_Hand.zip [v_hand__rows_, (V.int hand__at_), v_hand__held_, v_hand__spoken_, (V.str hand__way_)]))], g_hand__held_, g_hand__spoken_] amb [1, 2, 3, 0]
        refine OC_Hand.cl (x := (⟨hand__rows_, hand__at_, hand__held_, hand__spoken_, hand__way_⟩ : ObHand)) cf_Hand d_hand__rows_ (Dq.int _) d_hand__held_ d_hand__spoken_ (Dq.str _) z (fun g61 d62 z => ?_)
        refine ⟨(g_shared_ ++ amb), _, _, _, _, _, _, _, _, rfl, z, d62, (Dq.str _), (Dq.int _), ?_⟩
        refine run_mono2 hw (fun t63 hand_ hw v g_hand_ H Ho e z d64 d_hand_ => ?_)
        replace d64 : Z.D K Ho v t63 := d64
        replace d_hand_ : OC_Hand K Ho (V.ref a_hand) hand_ g_hand_ := d_hand_
        replace d_shared_ := OL.mo d_shared_ e
        have es66 := es60.trans e
        cases d64
        refine OC_Hand.op cf_Hand d_hand_ z (fun a67 dx67 v_hand__rows_ v_hand__at_ v_hand__held_ v_hand__spoken_ v_hand__way_ g_hand__held_ g_hand__spoken_ hv hg_67 d_hand__rows_ d_hand__at_ d_hand__held_ d_hand__spoken_ d_hand__way_ z => ?_)
        cases hv
        refine h_nmG (P := fun x => Z.D K Ho v_hand__rows_ x) hw d_hand__rows_ (fun hand__rows_ d_hand__rows_ hw => ?_)
        refine h_nmG (P := fun x => Z.D K Ho v_hand__at_ x) hw d_hand__at_ (fun hand__at_ d_hand__at_ hw => ?_)
        obtain rfl := d_int d_hand__at_
        refine h_nmG (P := fun x => OL K Ho v_hand__held_ x g_hand__held_) hw d_hand__held_ (fun hand__held_ d_hand__held_ hw => ?_)
        refine h_nmG (P := fun x => OL K Ho v_hand__spoken_ x g_hand__spoken_) hw d_hand__spoken_ (fun hand__spoken_ d_hand__spoken_ hw => ?_)
        refine h_nmG (P := fun x => Z.D K Ho v_hand__way_ x) hw d_hand__way_ (fun hand__way_ d_hand__way_ hw => ?_)
        obtain rfl := d_str d_hand__way_
        replace z : Zs ([(a_hand, HO.ins q_Hand dx67 (ns_Hand.zip [v_hand__rows_, (V.int hand__at_), v_hand__held_, v_hand__spoken_, (V.str hand__way_)]))] ++ (g_hand__held_ ++ (g_hand__spoken_ ++ (g_shared_ ++ amb)))) H Ho := z
        refine y_ret ?_
        refine k_tup ?_
        refine y_cons ?_
        refine y_c ?_
        refine y_cons ?_
        refine y_var rfl ?_
        refine y_cons ?_
        refine y_var rfl ?_
        refine y_cons ?_
        refine y_op ?_
        refine y_var rfl ?_
        refine y_var rfl ?_
        refine y_ixL (OL.lv d_shared_ (mgS (mgS (mgS mg0)))) z hw (fun t68 w d69 hw => ?_)
        first | obtain rfl := d_int d69 | cases d_int d69
        refine y_nil ?_
        refine k_tupk (K := K) (x := (⟨("swap" : Str), cell_, (some found_), (some t68)⟩ : (P4 Str Int (Option Int) (Option Int)))) z (by show 4 ≤ sizeLine; decide) _ rfl (DqAll.cons (Dq.str _) (DqAll.cons (Dq.int _) (DqAll.cons (show Z.D K Ho _ (some found_) from (Dq.int _)) (DqAll.cons (show Z.D K Ho _ (some t68) from (Dq.int _)) DqAll.nil)))) (fun p H Ho e z d70 => ?_)
        replace d_hand__held_ := OL.mo d_hand__held_ e
        replace d_hand__rows_ := D.mo d_hand__rows_ e
        replace d_hand__spoken_ := OL.mo d_hand__spoken_ e
        replace d_shared_ := OL.mo d_shared_ e
        have es71 := es66.trans e
        refine OC_Hand.cl (x := (⟨hand__rows_, hand__at_, hand__held_, hand__spoken_, hand__way_⟩ : ObHand)) cf_Hand d_hand__rows_ (Dq.int _) d_hand__held_ d_hand__spoken_ (Dq.str _) z (fun g72 d73 z => ?_)
        exact (run_ret hw) _ _ _ _ _ es71 z d70 d73 d_shared_
def sp_Works_turn (K : PySem.W.Frag) (cl tb : Nat → Addr) : Sp := fun vs H Q E => ∃ (amb : Grp) (Ho : Hp) (v0 : V) (x0 : ObWorks) (g0 : Grp) (v1 : V) (x1 : Int), vs = [v0, v1] ∧ Zs (g0 ++ amb) H Ho ∧ OC_Works K Ho v0 x0 g0 ∧ Z.D K Ho v1 x1 ∧ (m_Works_turn x0 x1).run (ExP (fun r => ∀ v h0 H' Ho', Same Ho Ho' → Zs (h0 ++ amb) H' Ho' → Z.D K Ho' v r.1 → OC_Works K Ho' v0 r.2 h0 → Q v H') fun e => ∀ H' Ho', Same Ho Ho' → Zs (g0 ++ amb) H' Ho' → e.arg = .none → E (.ref (cl e.cls)) none H')
abbrev s_Works_turn : Stmt := inClass (topS 29) 1
theorem sc_Works_turn : FnScope ["self", "hand", "one", "told"] ["self", "hand"] (defScope s_Works_turn) := ⟨rfl, rfl, rfl, by decide +kernel, rfl, by decide +kernel, by decide +kernel⟩
theorem ok_Works_turn {f : Addr} {fd : FuncData} (F : Fun K "turn" "Works.turn" s_Works_turn f fd) {q_Works q_Hand : Addr} {f_hand_of : Addr} {fd_hand_of : FuncData} (c_hand_of : Cal P w K mg base (L2.CX P w) "hand_of" ["team", "number"] 1 (sp_hand_of K cl tb) f_hand_of fd_hand_of) {f_do_touch : Addr} {fd_do_touch : FuncData} (c_do_touch : Cal P w K mg base CX0 "do_touch" ["hand", "shared"] 5 (sp_do_touch K cl tb) f_do_touch fd_do_touch) {f_lead_on : Addr} {fd_lead_on : FuncData} (c_lead_on : Cal P w K mg base CX0 "lead_on" ["hand"] 7 (sp_lead_on K cl tb) f_lead_on fd_lead_on) (cf_Works : CF K q_Works "Works" ns_Works) (cf_Hand : CF K q_Hand "Hand" ns_Hand) (xx_Over : PySem.W.excIn K (cl 1) [.type "ValueError", .type "Exception", .type "BaseException", .type "object"] "ValueError.__new__" = true) (gc_Over : mg "Over" = some (.ref (cl 1))) (kk_Over : PySem.W.keepIn K (.ref (cl 1)) = true) (bb_Over : PySem.W.subIn K (.ref (cl 1)) (.type "BaseException") = some true) (tt_Over : PySem.W.typeIn K (.ref (cl 1)) = some (.type "type")) :
    FnOk P w K mg base (L2.CX P w) 8 f fd ["self", "hand"] (sp_Works_turn K cl tb) := by
  refine F.okX sc_Works_turn (fun vs H Q E h => ?_) (fun cdv A outer s H vs Q E hr h => ?_)
  · obtain ⟨amb, Ho, v_self_, self_, g_self_, v_hand_, hand_, rfl, _⟩ := h
    rfl
  · obtain ⟨amb, Ho, v_self_, self_, g_self_, v_hand_, hand_, rfl, z, d_self_, d_hand_, hw⟩ := h
    refine ⟨_, pss_cons (ps_set (i := 2) sc_Works_turn.nd rfl (Or.inl rfl) ((by exact (pe_callS c_hand_of.ok (hr.mono (by decide)) (by rfl) c_hand_of.g c_hand_of.kp c_hand_of.b (fun σ => passAt (takes_of rfl rfl rfl rfl) σ) (pa_cons (zpe_fld (K := K) rfl (pv 0) rfl) (pa_cons (pv 1) (pa_nil))))))) (pss_cons (ps_if (pt_cmpR (op_ne) (zpe_fld (K := K) rfl (pv 2) rfl) (pe_str) (nomark _)) (pss_cons (zps_raise (K := K) rfl rfl (takes_of rfl rfl rfl rfl) xx_Over gc_Over kk_Over bb_Over tt_Over (by rfl)) (pss_nil)) (pss_nil)) (pss_cons (ps_set (i := 3) sc_Works_turn.nd rfl (Or.inl rfl) (pe_call c_do_touch.ok (hr.mono (by decide)) (by rfl) c_do_touch.g c_do_touch.kp c_do_touch.b .nil pass0 (pa_cons (pv 2) (pa_cons (zpe_fld (K := K) rfl (pv 0) rfl) (pa_nil))))) (pss_cons (ps_expr (pe_bm PySem.F.plainAttrs_list PySem.F.slot_list_append PySem.F.type_list_append mt_append (zpe_fld (K := K) rfl (pv 0) rfl) (pa_cons (pv 1) (pa_nil)))) (pss_cons (ps_expr (pe_call c_lead_on.ok (hr.mono (by decide)) (by rfl) c_lead_on.g c_lead_on.kp c_lead_on.b .nil pass0 (pa_cons (pv 2) (pa_nil)))) (pss_cons (ps_ret (pv 3)) (pss_nil)))))), ?_⟩
    obtain rfl := d_int d_hand_
    refine OC_Works.op cf_Works d_self_ z (fun a_self dx_self v_self__shared_ v_self__team_ v_self__past_ g_self__shared_ g_self__team_ g_self__past_ hv hg_self d_self__shared_ d_self__team_ d_self__past_ z => ?_)
    cases hv
    refine h_nmG (P := fun x => OL K Ho v_self__shared_ x g_self__shared_) hw d_self__shared_ (fun self__shared_ d_self__shared_ hw => ?_)
    refine h_nmG (P := fun x => OLo OC_Hand K Ho v_self__team_ x g_self__team_) hw d_self__team_ (fun self__team_ d_self__team_ hw => ?_)
    refine h_nmG (P := fun x => OL K Ho v_self__past_ x g_self__past_) hw d_self__past_ (fun self__past_ d_self__past_ hw => ?_)
    replace z : Zs ([(a_self, HO.ins q_Works dx_self (ns_Works.zip [v_self__shared_, v_self__team_, v_self__past_]))] ++ (g_self__shared_ ++ (g_self__team_ ++ (g_self__past_ ++ amb)))) H Ho := z
    refine l_asg (fun v => [_, _, some v, _]) (fun _ => rfl) ?_
    refine y_callS ?_
    refine y_cons ?_
    refine y_fld ?_
    refine y_var rfl ?_
    refine o_fld (i := 1) cf_Works mg0 z rfl rfl ?_
    refine y_cons ?_
    refine y_var rfl ?_
    refine y_nil ?_
    refine ⟨([(a_self, HO.ins q_Works dx_self (ns_Works.zip [v_self__shared_, v_self__team_, v_self__past_]))] ++ (g_self__shared_ ++ (g_self__team_ ++ (g_self__past_ ++ amb)))), _, _, _, _, _, rfl, z, ⟨_, d_self__team_, (mgS (mgS mg0))⟩, (Dq.int _), ?_⟩
    refine exm_mono (run_exm hw) (fun t2 hw u5 H Ho e z d3 => ?_) (fun er hw H Ho e z her => ?_)
    rotate_left
    · exact exP_er (run_ret hw) _ _ ((Same.refl _).trans e) (by rw [hg_self, rowG_app]; exact z) her
    replace d_self__past_ := OL.mo d_self__past_ e
    replace d_self__shared_ := OL.mo d_self__shared_ e
    replace d_self__team_ := OLo.mo d_self__team_ e
    have es6 := (Same.refl _).trans e
    refine l_any2 ?_
    refine h_nmG (P := fun i => ElAt _ _ i _) hw d3 (fun one__ix_ el_one_ hw => ?_)
    replace z : Zs (g_self__team_ ++ ([(a_self, HO.ins q_Works dx_self (ns_Works.zip [v_self__shared_, v_self__team_, v_self__past_]))] ++ (g_self__shared_ ++ (g_self__past_ ++ amb)))) _ _ := z.go [[(a_self, HO.ins q_Works dx_self (ns_Works.zip [v_self__shared_, v_self__team_, v_self__past_]))], g_self__shared_, g_self__team_, g_self__past_] amb [2, 0, 1, 3]
    refine o_openE d_self__team_ z el_one_ (fun r m => (List.mem_append.mp m).elim ((mgS mg0) r) ((fun r m => (List.mem_append.mp m).elim ((mgS (mgS mg0)) r) ((fun r m => (List.mem_append.mp m).elim (mg0 r) ((fun r m => (List.mem_append.mp m).elim ((mgS (mgS (mgS mg0))) r) ((mgS (mgS (mgS (mgS mgE)))) r)) r)) r)) r)) hw (fun one_ g_one_ gh_one_ pb_one_ z oh_one_ d_one_ hw => ?_)
    refine y_ifS ?_
    refine y_test ?_
    refine y_op ?_
    refine y_fld ?_
    refine y_var rfl ?_
    refine OC_Hand.f_way cf_Hand d_one_ mg0 z (fun u7 d8 => ?_)
    first | obtain rfl := d_str d8 | cases d_str d8
    refine y_c ?_
    refine y_nes ?_
    refine ⟨_, rfl, ?_⟩
    refine y_cases hw (fun hb hw => ?_) (fun hb hw => ?_)
    · refine y_raise ?_
      replace z := pb_one_ _ _ _ z
      replace z : Zs ([(a_self, HO.ins q_Works dx_self (ns_Works.zip [v_self__shared_, v_self__team_, v_self__past_]))] ++ (g_self__shared_ ++ (g_self__team_ ++ (g_self__past_ ++ amb)))) _ _ := z.go [g_self__team_, [(a_self, HO.ins q_Works dx_self (ns_Works.zip [v_self__shared_, v_self__team_, v_self__past_]))], g_self__shared_, g_self__past_] amb [1, 2, 0, 3]
      exact exP_er (run_ret hw) _ _ es6 (by rw [hg_self, rowG_app]; exact z) rfl
    · refine y_nxS ?_
      refine l_asg (fun v => [_, _, _, some v]) (fun _ => rfl) ?_
      refine y_call ?_
      refine y_cons ?_
      refine y_var rfl ?_
      refine y_cons ?_
      refine y_fld ?_
      refine y_var rfl ?_
      refine o_fld (i := 0) cf_Works (mgS (mgS mg0)) z rfl rfl ?_
      refine y_nil ?_
      replace z : Zs (g_one_ ++ (g_self__shared_ ++ (gh_one_ ++ ([(a_self, HO.ins q_Works dx_self (ns_Works.zip [v_self__shared_, v_self__team_, v_self__past_]))] ++ (g_self__past_ ++ amb))))) _ _ := z.go [g_one_, gh_one_, [(a_self, HO.ins q_Works dx_self (ns_Works.zip [v_self__shared_, v_self__team_, v_self__past_]))], g_self__shared_, g_self__past_] amb [0, 3, 1, 2, 4]
      refine ⟨(gh_one_ ++ ([(a_self, HO.ins q_Works dx_self (ns_Works.zip [v_self__shared_, v_self__team_, v_self__past_]))] ++ (g_self__past_ ++ amb))), _, _, _, _, _, _, _, rfl, z, d_one_, d_self__shared_, ?_⟩
      refine run_mono3 hw ?_
      rintro ⟨t9, one_, self__shared_⟩ hw v g_one_ g_self__shared_ H Ho e z d10 d_one_ d_self__shared_
      replace d10 : Z.D K Ho v t9 := d10
      replace d_one_ : OC_Hand K Ho u5 one_ g_one_ := d_one_
      replace d_self__shared_ : OL K Ho v_self__shared_ self__shared_ g_self__shared_ := d_self__shared_
      replace d_self__past_ := OL.mo d_self__past_ e
      replace oh_one_ := OLh.mo oh_one_ e
      have es12 := es6.trans e
      refine l_d (K := K) (Ho := Ho) hw d10 (fun told_ v_told_ d_told_ hw => ?_)
      refine y_drop ?_
      refine y_bm ?_
      refine y_fld ?_
      refine y_var rfl ?_
      refine o_fld (i := 2) cf_Works (mgS (mgS (mgS mg0))) z rfl rfl ?_
      refine g_tyL (OL.lv d_self__past_ (mgS (mgS (mgS (mgS mg0))))) z ?_
      refine y_cons ?_
      refine y_var rfl ?_
      refine y_nil ?_
      replace z : Zs (g_self__past_ ++ (g_one_ ++ (g_self__shared_ ++ (gh_one_ ++ ([(a_self, HO.ins q_Works dx_self (ns_Works.zip [v_self__shared_, v_self__team_, v_self__past_]))] ++ amb))))) _ _ := z.go [g_one_, g_self__shared_, gh_one_, [(a_self, HO.ins q_Works dx_self (ns_Works.zip [v_self__shared_, v_self__team_, v_self__past_]))], g_self__past_] amb [4, 0, 1, 2, 3]
      refine g_app z d_self__past_ (Dq.int _) hw (fun self__past_ g_self__past_ H z d_self__past_ hw => ?_)
      refine y_drop ?_
      refine y_call ?_
      refine y_cons ?_
      refine y_var rfl ?_
      refine y_nil ?_
      replace z : Zs (g_one_ ++ (g_self__past_ ++ (g_self__shared_ ++ (gh_one_ ++ ([(a_self, HO.ins q_Works dx_self (ns_Works.zip [v_self__shared_, v_self__team_, v_self__past_]))] ++ amb))))) _ _ := z.go [g_self__past_, g_one_, g_self__shared_, gh_one_, [(a_self, HO.ins q_Works dx_self (ns_Works.zip [v_self__shared_, v_self__team_, v_self__past_]))]] amb [1, 0, 2, 3, 4]
      refine ⟨(g_self__past_ ++ (g_self__shared_ ++ (gh_one_ ++ ([(a_self, HO.ins q_Works dx_self (ns_Works.zip [v_self__shared_, v_self__team_, v_self__past_]))] ++ amb)))), _, _, _, _, rfl, z, d_one_, ?_⟩
      refine run_mono2 hw (fun t13 one_ hw v g_one_ H Ho e z d14 d_one_ => ?_)
      replace d14 : Z.D K Ho v t13 := d14
      replace d_one_ : OC_Hand K Ho u5 one_ g_one_ := d_one_
      replace d_self__past_ := OL.mo d_self__past_ e
      replace d_self__shared_ := OL.mo d_self__shared_ e
      replace oh_one_ := OLh.mo oh_one_ e
      replace d_told_ := D.mo d_told_ e
      have es16 := es12.trans e
      cases d14
      replace z : Zs (g_one_ ++ (gh_one_ ++ (g_self__past_ ++ (g_self__shared_ ++ ([(a_self, HO.ins q_Works dx_self (ns_Works.zip [v_self__shared_, v_self__team_, v_self__past_]))] ++ amb))))) _ _ := z.go [g_one_, g_self__past_, g_self__shared_, gh_one_, [(a_self, HO.ins q_Works dx_self (ns_Works.zip [v_self__shared_, v_self__team_, v_self__past_]))]] amb [0, 3, 1, 2, 4]
      refine o_fill oh_one_ d_one_ z (fun g17 z d18 => ?_)
      refine h_nmG (P := fun x => OLo OC_Hand K Ho v_self__team_ x g17) hw d18 (fun self__team_ d_self__team_ hw => ?_)
      refine y_ret ?_
      refine y_var rfl ?_
      replace z : Zs ([(a_self, HO.ins q_Works dx_self (ns_Works.zip [v_self__shared_, v_self__team_, v_self__past_]))] ++ (g_self__shared_ ++ (g17 ++ (g_self__past_ ++ amb)))) _ _ := z.go [g17, g_self__past_, g_self__shared_, [(a_self, HO.ins q_Works dx_self (ns_Works.zip [v_self__shared_, v_self__team_, v_self__past_]))]] amb [3, 2, 0, 1]
      refine OC_Works.cl (x := (⟨self__shared_, self__team_, self__past_⟩ : ObWorks)) cf_Works d_self__shared_ d_self__team_ d_self__past_ z (fun g19 d20 z => ?_)
      exact (exP_ok (run_ret hw)) _ _ _ _ es16 z d_told_ d20
abbrev s_Held___init__ : Stmt := inClass (topS 2) 0
theorem sc_Held___init__ : FnScope ["self", "note"] ["self", "note"] (defScope s_Held___init__) := ⟨rfl, rfl, rfl, by decide +kernel, rfl, by decide +kernel, by decide +kernel⟩
theorem ok_Held___init__ {f : Addr} {fd : FuncData} {C0 : Addr} {mc : Value} (F : Fun K "__init__" "Held.__init__" s_Held___init__ f fd) (hm : mg "NoteError" = some (.ref C0)) (gga : PySem.W.specialIn K (.ref C0) "__getattribute__" = some (some (.builtin "type.__getattribute__"))) (hrd : PySem.W.readsIn K C0 mc = true) (hv : PySem.W.findCls K (.ref C0) mc "__init__" = some (.val (.builtin "ValueError.__init__"))) :
    FnOk P w K mg base CX0 1 f fd ["self", "note"] (spExi K "note") := by
  refine F.ok sc_Held___init__ (fun vs H Q E h => ?_) (fun cdv A outer s H vs Q E hr h => ?_)
  · obtain ⟨a, C, v, rfl, _⟩ := h
    rfl
  · obtain ⟨a, C, v, rfl, T, hno, ha, k⟩ := h
    refine ⟨_, pss_cons (ps_expr (pe_neinit rfl hm gga hrd hv (pa_cons (pv 0) (pa_cons pe_str pa_nil)))) (pss_cons (ps_ost (pv 0) (pv 1)) pss_nil), ?_⟩
    exact ⟨_, rfl, a, C, _, rfl, by decide, T, ha, _, rfl, _, rfl, a, C, rfl, T, hno, .inl ⟨ha, fun dx n ne => k dx n ne⟩⟩
def sp_Replay_turn (K : PySem.W.Frag) (cl tb : Nat → Addr) : Sp := fun vs H Q E => ∃ (amb : Grp) (Ho : Hp) (v0 : V) (x0 : ObReplay) (g0 : Grp) (v1 : V) (x1 : Int), vs = [v0, v1] ∧ Zs (g0 ++ amb) H Ho ∧ OC_Replay K Ho v0 x0 g0 ∧ Z.D K Ho v1 x1 ∧ (m_Replay_turn x0 x1).run (ExP (fun r => ∀ v h0 H' Ho', Same Ho Ho' → Zs (h0 ++ amb) H' Ho' → Z.D K Ho' v r.1 → OC_Replay K Ho' v0 r.2 h0 → Q v H') fun e => ∀ H' Ho' d, Same Ho Ho' → Zs (g0 ++ amb) H' Ho' → ErD K Ho' d e → E (.ref (cl e.cls)) d H')
abbrev s_Replay_turn : Stmt := inClass (topS 12) 3
theorem sc_Replay_turn : FnScope ["self", "hand", "tie", "told"] ["self", "hand"] (defScope s_Replay_turn) := ⟨rfl, rfl, rfl, by decide +kernel, rfl, by decide +kernel, by decide +kernel⟩
theorem ok_Replay_turn {f : Addr} {fd : FuncData} (F : Fun K "turn" "Replay.turn" s_Replay_turn f fd) {q_Replay q_Works : Addr} {fi_Held : Addr} {fdi_Held : FuncData} {f_Replay_is_over : Addr} {fd_Replay_is_over : FuncData} (c_Replay_is_over : MCal P w K mg base (L2.CX P w) q_Replay "is_over" ["self", "hand"] 3 (sp_Replay_is_over K cl tb) f_Replay_is_over fd_Replay_is_over) {f_Replay_holder : Addr} {fd_Replay_holder : FuncData} (c_Replay_holder : MCal P w K mg base CX0 q_Replay "holder" ["self", "hand"] 1 (sp_Replay_holder K cl tb) f_Replay_holder fd_Replay_holder) {f_Works_turn : Addr} {fd_Works_turn : FuncData} (c_Works_turn : MCal P w K mg base (L2.CX P w) q_Works "turn" ["self", "hand"] 8 (sp_Works_turn K cl tb) f_Works_turn fd_Works_turn) (m_len : mg "len" = none) (cf_Replay : CF K q_Replay "Replay" ns_Replay) (xx_NoHand : PySem.W.excIn K (cl 0) [.type "ValueError", .type "Exception", .type "BaseException", .type "object"] "ValueError.__new__" = true) (gc_NoHand : mg "NoHand" = some (.ref (cl 0))) (kk_NoHand : PySem.W.keepIn K (.ref (cl 0)) = true) (bb_NoHand : PySem.W.subIn K (.ref (cl 0)) (.type "BaseException") = some true) (tt_NoHand : PySem.W.typeIn K (.ref (cl 0)) = some (.type "type")) (xx_Over : PySem.W.excIn K (cl 1) [.type "ValueError", .type "Exception", .type "BaseException", .type "object"] "ValueError.__new__" = true) (gc_Over : mg "Over" = some (.ref (cl 1))) (kk_Over : PySem.W.keepIn K (.ref (cl 1)) = true) (bb_Over : PySem.W.subIn K (.ref (cl 1)) (.type "BaseException") = some true) (tt_Over : PySem.W.typeIn K (.ref (cl 1)) = some (.type "type")) (ox_Held : OexC K (cl 3)) (fn_Held : PySem.W.findIn K (.ref (cl 3)) "note" = some none) (iC_Held : PySem.W.findIn K (.ref (cl 3)) "__init__" = some (some (.ref fi_Held))) (gc_Held : mg "Held" = some (.ref (cl 3))) (tI_Held : PySem.W.typeIn K (.ref fi_Held) = some (.type "function")) (xi_Held : FnOk P w K mg base CX0 1 fi_Held fdi_Held ["self", "note"] (spExi K "note")) (xb_Held : Binds K fdi_Held ["self", "note"] []) (cf_Works : CF K q_Works "Works" ns_Works) :
    FnOk P w K mg base (L2.CX P w) 9 f fd ["self", "hand"] (sp_Replay_turn K cl tb) := by
  refine F.okX sc_Replay_turn (fun vs H Q E h => ?_) (fun cdv A outer s H vs Q E hr h => ?_)
  · obtain ⟨amb, Ho, v_self_, self_, g_self_, v_hand_, hand_, rfl, _⟩ := h
    rfl
  · obtain ⟨amb, Ho, v_self_, self_, g_self_, v_hand_, hand_, rfl, z, d_self_, d_hand_, hw⟩ := h
    refine ⟨_, pss_cons (ps_if (PW.pt (pw_or (pt_cmpR (op_lt) (pv 1) (pe_int) (nomark _)) (pw_or1 (pt_cmpR (op_ge) (pv 1) (pe_callB (zlen (K := K) rfl) (by rfl) m_len (by decide +kernel) (pa_cons (zpe_fld (K := K) rfl (pv 0) rfl) (pa_nil))) (nomark _))))) (pss_cons (zps_raise (K := K) rfl rfl (takes_of rfl rfl rfl rfl) xx_NoHand gc_NoHand kk_NoHand bb_NoHand tt_NoHand (by rfl)) (pss_nil)) (pss_nil)) (pss_cons (ps_if (pt_val ((by exact (pe_methS' (pv 0) cf_Replay.cl c_Replay_is_over.me c_Replay_is_over.ok (hr.mono (by decide)) c_Replay_is_over.b (fun σ => passAt (takes_of rfl rfl rfl rfl) σ) (pa_cons (pv 1) (pa_nil)))))) (pss_cons (zps_raise (K := K) rfl rfl (takes_of rfl rfl rfl rfl) xx_Over gc_Over kk_Over bb_Over tt_Over (by rfl)) (pss_nil)) (pss_nil)) (pss_cons (ps_set (i := 2) sc_Replay_turn.nd rfl (Or.inl rfl) ((by exact (pe_methS' (E := fun _ => E0) (pv 0) cf_Replay.cl c_Replay_holder.me c_Replay_holder.ok (hr.mono (by decide)) c_Replay_holder.b (fun σ => passAt0 (E := fun _ => E0)) (pa_cons (pv 1) (pa_nil)))))) (pss_cons (ps_if (pt_cmpR (op_notN) (pv 2) (pe_non) (nomark _)) (pss_cons (zps_raiseO (K := K) rfl rfl (takes_of rfl rfl rfl rfl) ox_Held iC_Held tI_Held xi_Held (hr.mono (by decide)) xb_Held rfl gc_Held (pa_cons (pv 2) (pa_nil)) pass0) (pss_nil)) (pss_nil)) (pss_cons (ps_set (i := 3) sc_Replay_turn.nd rfl (Or.inl rfl) ((by exact (pe_methS' (zpe_fld (K := K) rfl (pv 0) rfl) cf_Works.cl c_Works_turn.me c_Works_turn.ok (hr.mono (by decide)) c_Works_turn.b (fun σ => passAt (takes_of rfl rfl rfl rfl) σ) (pa_cons (pv 1) (pa_nil)))))) (pss_cons (ps_augS (zpe_fld (K := K) rfl (pv 0) rfl) (pv 1) (zget_list (K := K) rfl) (pe_int) ip_add set_list) (pss_cons (ps_ret (pv 3)) (pss_nil))))))), ?_⟩
    obtain rfl := d_int d_hand_
    refine OC_Replay.op cf_Replay d_self_ z (fun a_self dx_self v_self__going_ v_self__due_ v_self__ties_ v_self__gone_ g_self__going_ g_self__due_ g_self__ties_ g_self__gone_ hv hg_self d_self__going_ d_self__due_ d_self__ties_ d_self__gone_ z => ?_)
    cases hv
    refine h_nmG (P := fun x => OC_Works K Ho v_self__going_ x g_self__going_) hw d_self__going_ (fun self__going_ d_self__going_ hw => ?_)
    refine h_nmG (P := fun x => OL K Ho v_self__due_ x g_self__due_) hw d_self__due_ (fun self__due_ d_self__due_ hw => ?_)
    refine h_nmG (P := fun x => OL K Ho v_self__ties_ x g_self__ties_) hw d_self__ties_ (fun self__ties_ d_self__ties_ hw => ?_)
    refine h_nmG (P := fun x => OL K Ho v_self__gone_ x g_self__gone_) hw d_self__gone_ (fun self__gone_ d_self__gone_ hw => ?_)
    replace z : Zs ([(a_self, HO.ins q_Replay dx_self (ns_Replay.zip [v_self__going_, v_self__due_, v_self__ties_, v_self__gone_]))] ++ (g_self__going_ ++ (g_self__due_ ++ (g_self__ties_ ++ (g_self__gone_ ++ amb))))) H Ho := z
    refine y_ifS ?_
    refine y_or ?_
    refine y_test ?_
    refine y_op ?_
    refine y_var rfl ?_
    refine y_c ?_
    refine y_i0 ?_
    refine ⟨_, rfl, ?_⟩
    refine w_orJ hw (fun (s : Bool) (v : Bool) (H2 : Hp) => ∃ (Ho2 : Hp), Same Ho Ho2 ∧ Zs ([(a_self, HO.ins q_Replay dx_self (ns_Replay.zip [v_self__going_, v_self__due_, v_self__ties_, v_self__gone_]))] ++ (g_self__going_ ++ (g_self__due_ ++ (g_self__ties_ ++ (g_self__gone_ ++ amb))))) H2 Ho2 ∧ v = s) (fun hb hw => ?_) (fun hb hw => ?_) ?_
    · exact (run_ret hw) _ _ ⟨_, (Same.refl _), z, rfl⟩
    · refine y_test ?_
      refine y_op ?_
      refine y_var rfl ?_
      refine y_cb ?_
      refine y_cons ?_
      refine y_fld ?_
      refine y_var rfl ?_
      refine o_fld (i := 1) cf_Replay mg0 z rfl rfl ?_
      refine y_nil ?_
      refine y_len (OL.lv d_self__due_ (mgS (mgS mg0))) z ?_
      refine y_i0 ?_
      refine ⟨_, rfl, ?_⟩
      exact (run_ret hw) _ _ ⟨_, (Same.refl _), z, rfl⟩
    rintro t2 v H ⟨Ho, e, z, rfl⟩ hw
    replace d_self__due_ := OL.mo d_self__due_ e
    replace d_self__going_ := OC_Works.mo d_self__going_ e
    replace d_self__gone_ := OL.mo d_self__gone_ e
    replace d_self__ties_ := OL.mo d_self__ties_ e
    have es5 := (Same.refl _).trans e
    refine y_cases hw (fun hb hw => ?_) (fun hb hw => ?_)
    · refine y_raise ?_
      exact exP_er (run_ret hw) _ _ _ es5 (by rw [hg_self, rowG_app]; exact z) erD0
    · refine y_nxS ?_
      refine y_ifS ?_
      refine y_tB ?_
      refine y_meth ?_
      refine y_var rfl ?_
      refine o_met mg0 z (by decide +kernel) ?_
      refine y_cons ?_
      refine y_var rfl ?_
      refine y_nil ?_
      refine ⟨([(a_self, HO.ins q_Replay dx_self (ns_Replay.zip [v_self__going_, v_self__due_, v_self__ties_, v_self__gone_]))] ++ (g_self__going_ ++ (g_self__due_ ++ (g_self__ties_ ++ (g_self__gone_ ++ amb))))), _, _, _, _, _, rfl, z, (OC_Replay.bo (x := (⟨self__going_, self__due_, self__ties_, self__gone_⟩ : ObReplay)) cf_Replay d_self__going_ d_self__due_ d_self__ties_ d_self__gone_ mg0 (mgS mg0) (mgS (mgS mg0)) (mgS (mgS (mgS mg0))) (mgS (mgS (mgS (mgS mg0))))), (Dq.int _), ?_⟩
      refine exm_mono (run_exm hw) (fun t6 hw v H Ho e z d7 => ?_) (fun er hw H Ho e z her => ?_)
      rotate_left
      · exact exP_er (run_ret hw) _ _ _ (es5.trans e) (by rw [hg_self, rowG_app]; exact z) (.inl ⟨her, rfl⟩)
      replace d_self__due_ := OL.mo d_self__due_ e
      replace d_self__going_ := OC_Works.mo d_self__going_ e
      replace d_self__gone_ := OL.mo d_self__gone_ e
      replace d_self__ties_ := OL.mo d_self__ties_ e
      have es9 := es5.trans e
      first | obtain rfl := d_bool d7 | cases d_bool d7
      refine ⟨_, rfl, ?_⟩
      refine y_cases hw (fun hb hw => ?_) (fun hb hw => ?_)
      · refine y_raise ?_
        exact exP_er (run_ret hw) _ _ _ es9 (by rw [hg_self, rowG_app]; exact z) erD0
      · refine y_nxS ?_
        refine l_asg (fun v => [_, _, some v, _]) (fun _ => rfl) ?_
        refine y_meth ?_
        refine y_var rfl ?_
        refine o_met mg0 z (by decide +kernel) ?_
        refine y_cons ?_
        refine y_var rfl ?_
        refine y_nil ?_
        refine ⟨([(a_self, HO.ins q_Replay dx_self (ns_Replay.zip [v_self__going_, v_self__due_, v_self__ties_, v_self__gone_]))] ++ (g_self__going_ ++ (g_self__due_ ++ (g_self__ties_ ++ (g_self__gone_ ++ amb))))), _, _, _, _, _, rfl, z, (OC_Replay.bo (x := (⟨self__going_, self__due_, self__ties_, self__gone_⟩ : ObReplay)) cf_Replay d_self__going_ d_self__due_ d_self__ties_ d_self__gone_ mg0 (mgS mg0) (mgS (mgS mg0)) (mgS (mgS (mgS mg0))) (mgS (mgS (mgS (mgS mg0))))), (Dq.int _), ?_⟩
        refine run_mono3 hw (fun t10 hw v H Ho e z d11 => ?_)
        replace d_self__due_ := OL.mo d_self__due_ e
        replace d_self__going_ := OC_Works.mo d_self__going_ e
        replace d_self__gone_ := OL.mo d_self__gone_ e
        replace d_self__ties_ := OL.mo d_self__ties_ e
        have es13 := es9.trans e
        refine l_d (K := K) (Ho := Ho) hw d11 (fun tie_ v_tie_ d_tie_ hw => ?_)
        refine y_ifS ?_
        refine y_test ?_
        refine y_op ?_
        refine y_var rfl ?_
        refine y_c ?_
        refine ⟨rfl, ?_⟩
        rw [dec_non d_tie_ hw.1, not_isNone]
        replace hw := (run_gd hw).2
        refine ⟨_, rfl, ?_⟩
        refine y_cases hw (fun hb hw => ?_) (fun hb hw => ?_)
        · refine y_raiseO ?_
          refine y_cons ?_
          refine y_var rfl ?_
          refine y_nil ?_
          refine y_rsO (n := 3) ox_Held fn_Held z d_tie_ (fun H Ho dd e z her => ?_)
          exact exP_er (run_ret hw) _ _ _ (es13.trans e) (by rw [hg_self, rowG_app]; exact z) her
        · refine y_nxS ?_
          refine l_asg (fun v => [_, _, _, some v]) (fun _ => rfl) ?_
          refine y_meth ?_
          refine y_fld ?_
          refine y_var rfl ?_
          refine o_fld (i := 0) cf_Replay mg0 z rfl rfl ?_
          refine OC_Works.met cf_Works d_self__going_ (mgS mg0) z (by decide +kernel) ?_
          refine y_cons ?_
          refine y_var rfl ?_
          refine y_nil ?_
          replace z : Zs (g_self__going_ ++ ([(a_self, HO.ins q_Replay dx_self (ns_Replay.zip [v_self__going_, v_self__due_, v_self__ties_, v_self__gone_]))] ++ (g_self__due_ ++ (g_self__ties_ ++ (g_self__gone_ ++ amb))))) _ _ := z.go [[(a_self, HO.ins q_Replay dx_self (ns_Replay.zip [v_self__going_, v_self__due_, v_self__ties_, v_self__gone_]))], g_self__going_, g_self__due_, g_self__ties_, g_self__gone_] amb [1, 0, 2, 3, 4]
          refine ⟨([(a_self, HO.ins q_Replay dx_self (ns_Replay.zip [v_self__going_, v_self__due_, v_self__ties_, v_self__gone_]))] ++ (g_self__due_ ++ (g_self__ties_ ++ (g_self__gone_ ++ amb)))), _, _, _, _, _, _, rfl, z, d_self__going_, (Dq.int _), ?_⟩
          refine exm_mono (run_exm hw) ?_ (fun er hw H Ho e z her => ?_)
          rotate_left
          · replace z : Zs ([(a_self, HO.ins q_Replay dx_self (ns_Replay.zip [v_self__going_, v_self__due_, v_self__ties_, v_self__gone_]))] ++ (g_self__going_ ++ (g_self__due_ ++ (g_self__ties_ ++ (g_self__gone_ ++ amb))))) _ _ := z.go [g_self__going_, [(a_self, HO.ins q_Replay dx_self (ns_Replay.zip [v_self__going_, v_self__due_, v_self__ties_, v_self__gone_]))], g_self__due_, g_self__ties_, g_self__gone_] amb [1, 0, 2, 3, 4]
            exact exP_er (run_ret hw) _ _ _ (es13.trans e) (by rw [hg_self, rowG_app]; exact z) (.inl ⟨her, rfl⟩)
          rintro ⟨t14, self__going_⟩ hw v g_self__going_ H Ho e z d15 d_self__going_
          replace d15 : Z.D K Ho v t14 := d15
          replace d_self__going_ : OC_Works K Ho v_self__going_ self__going_ g_self__going_ := d_self__going_
          replace d_self__due_ := OL.mo d_self__due_ e
          replace d_self__gone_ := OL.mo d_self__gone_ e
          replace d_self__ties_ := OL.mo d_self__ties_ e
          have es17 := es13.trans e
          refine l_d (K := K) (Ho := Ho) hw d15 (fun told_ v_told_ d_told_ hw => ?_)
          refine y_augS ?_
          refine y_fld ?_
          refine y_var rfl ?_
          refine o_fld (i := 3) cf_Replay (mgS mg0) z rfl rfl ?_
          refine y_var rfl ?_
          refine y_ixL (OL.lv d_self__gone_ (mgS (mgS (mgS (mgS mg0))))) z hw (fun t18 w d19 hw => ?_)
          obtain rfl := d_int d19
          refine y_c ?_
          refine y_ip ?_
          replace z : Zs (g_self__gone_ ++ (g_self__going_ ++ ([(a_self, HO.ins q_Replay dx_self (ns_Replay.zip [v_self__going_, v_self__due_, v_self__ties_, v_self__gone_]))] ++ (g_self__due_ ++ (g_self__ties_ ++ amb))))) _ _ := z.go [g_self__going_, [(a_self, HO.ins q_Replay dx_self (ns_Replay.zip [v_self__going_, v_self__due_, v_self__ties_, v_self__gone_]))], g_self__due_, g_self__ties_, g_self__gone_] amb [4, 0, 1, 2, 3]
          refine g_sti z d_self__gone_ (Dq.int _) hw (fun self__gone_ g_self__gone_ H z d_self__gone_ hw => ?_)
          refine y_ret ?_
          refine y_var rfl ?_
          replace z : Zs ([(a_self, HO.ins q_Replay dx_self (ns_Replay.zip [v_self__going_, v_self__due_, v_self__ties_, v_self__gone_]))] ++ (g_self__going_ ++ (g_self__due_ ++ (g_self__ties_ ++ (g_self__gone_ ++ amb))))) _ _ := z.go [g_self__gone_, g_self__going_, [(a_self, HO.ins q_Replay dx_self (ns_Replay.zip [v_self__going_, v_self__due_, v_self__ties_, v_self__gone_]))], g_self__due_, g_self__ties_] amb [2, 1, 3, 4, 0]
          refine OC_Replay.cl (x := (⟨self__going_, self__due_, self__ties_, self__gone_⟩ : ObReplay)) cf_Replay d_self__going_ d_self__due_ d_self__ties_ d_self__gone_ z (fun g20 d21 z => ?_)
          exact (exP_ok (run_ret hw)) _ _ _ _ es17 z d_told_ d21
def sp_Replay_free (K : PySem.W.Frag) (cl tb : Nat → Addr) : Sp := fun vs H Q E => ∃ (amb : Grp) (Ho : Hp) (v0 : V) (x0 : ObReplay), vs = [v0] ∧ Zs amb H Ho ∧ BC_Replay K amb Ho v0 x0 ∧ (m_Replay_free x0).run (ExP (fun r => ∀ v g H' Ho', Same Ho Ho' → Zs (g ++ amb) H' Ho' → OL K Ho' v r g → Q v H') fun e => ∀ H' Ho', Same Ho Ho' → Zs amb H' Ho' → e.arg = .none → E (.ref (cl e.cls)) none H')
abbrev s_Replay_free : Stmt := inClass (topS 12) 4
theorem sc_Replay_free : FnScope ["self", "waiting", "hand"] ["self"] (defScope s_Replay_free) := ⟨rfl, rfl, rfl, by decide +kernel, rfl, by decide +kernel, by decide +kernel⟩
theorem ok_Replay_free {f : Addr} {fd : FuncData} (F : Fun K "free" "Replay.free" s_Replay_free f fd) {q_Replay : Addr} {f_Replay_is_over : Addr} {fd_Replay_is_over : FuncData} (c_Replay_is_over : MCal P w K mg base (L2.CX P w) q_Replay "is_over" ["self", "hand"] 3 (sp_Replay_is_over K cl tb) f_Replay_is_over fd_Replay_is_over) {f_Replay_holder : Addr} {fd_Replay_holder : FuncData} (c_Replay_holder : MCal P w K mg base CX0 q_Replay "holder" ["self", "hand"] 1 (sp_Replay_holder K cl tb) f_Replay_holder fd_Replay_holder) (m_len : mg "len" = none) (m_range : mg "range" = none) (cf_Replay : CF K q_Replay "Replay" ns_Replay) :
    FnOk P w K mg base (L2.CX P w) 4 f fd ["self"] (sp_Replay_free K cl tb) := by
  refine F.okX sc_Replay_free (fun vs H Q E h => ?_) (fun cdv A outer s H vs Q E hr h => ?_)
  · obtain ⟨amb, Ho, v_self_, self_, rfl, _⟩ := h
    rfl
  · obtain ⟨amb, Ho, v_self_, self_, rfl, z, d_self_, hw⟩ := h
    refine ⟨_, pss_cons (ps_setLc (i := 1) (own := [("hand", 2)]) rfl sc_Replay_free.nd rfl rfl (sw_true rfl rfl rfl (by decide +kernel)) (pi_range1 (by rfl) m_range (pa_cons (pe_callB (zlen (K := K) rfl) (by rfl) m_len (by decide +kernel) (pa_cons (zpe_fld (K := K) rfl (pv 0) rfl) (pa_nil))) (pa_nil))) (blkOk_by (N := ["self", "waiting", "hand"]) (sc := defScope s_Replay_free) (by decide +kernel)) (fun _ _ _ _ _ => pg_name (i := 2) sc_Replay_free.nd rfl (Or.inl rfl)) (fun _ _ _ _ _ => pts_one (pt_not (pt_val ((by exact (pe_methS' (pv 0) cf_Replay.cl c_Replay_is_over.me c_Replay_is_over.ok (hr.mono (by decide)) c_Replay_is_over.b (fun σ => passAt takes0 σ) (pa_cons (pv 2) (pa_nil)))))))) (fun _ _ _ _ _ => pv 2)) (pss_cons (ps_ret (pe_lc (own := [("hand", 2)]) rfl sc_Replay_free.nd (zpi_list (K := K) rfl (pv 1)) (blkOk_by (N := ["self", "waiting", "hand"]) (sc := defScope s_Replay_free) (by decide +kernel)) (fun _ _ _ _ _ => pg_name (i := 2) sc_Replay_free.nd rfl (Or.inl rfl)) (fun _ _ _ _ _ => pts_one (pt_cmpR (op_isN) ((by exact (pe_methS' (E := fun _ => E0) (pv 0) cf_Replay.cl c_Replay_holder.me c_Replay_holder.ok (hr.mono (by decide)) c_Replay_holder.b (fun σ => passAt0 (E := fun _ => E0)) (pa_cons (pv 2) (pa_nil))))) (pe_non) (nomark _))) (fun _ _ _ _ _ => pv 2))) (pss_nil)), ?_⟩
    have dB_self := d_self_
    obtain ⟨g_self_, d_self_, mg_self_⟩ := d_self_
    refine OC_Replay.rd cf_Replay d_self_ mg_self_ (fun a_self dx_self v_self__going_ v_self__due_ v_self__ties_ v_self__gone_ g_self__going_ g_self__due_ g_self__ties_ g_self__gone_ hv d_self__going_ d_self__due_ d_self__ties_ d_self__gone_ mi_self mg_self__going_ mg_self__due_ mg_self__ties_ mg_self__gone_ => ?_)
    cases hv
    have d_self__going_ : BC_Works K amb Ho v_self__going_ _ := ⟨_, d_self__going_, mg_self__going_⟩
    refine h_nmG (P := fun x => BC_Works K amb Ho v_self__going_ x) hw d_self__going_ (fun self__going_ d_self__going_ hw => ?_)
    have d_self__due_ : LV K amb Ho v_self__due_ _ := OL.lv d_self__due_ mg_self__due_
    refine h_nmG (P := fun x => LV K amb Ho v_self__due_ x) hw d_self__due_ (fun self__due_ d_self__due_ hw => ?_)
    have d_self__ties_ : LV K amb Ho v_self__ties_ _ := OL.lv d_self__ties_ mg_self__ties_
    refine h_nmG (P := fun x => LV K amb Ho v_self__ties_ x) hw d_self__ties_ (fun self__ties_ d_self__ties_ hw => ?_)
    have d_self__gone_ : LV K amb Ho v_self__gone_ _ := OL.lv d_self__gone_ mg_self__gone_
    refine h_nmG (P := fun x => LV K amb Ho v_self__gone_ x) hw d_self__gone_ (fun self__gone_ d_self__gone_ hw => ?_)
    refine l_asg (fun v => [_, some v, _]) (fun _ => rfl) ?_
    refine y_lc ?_
    refine k_iR1 ?_
    refine y_cons ?_
    refine y_cb ?_
    refine y_cons ?_
    refine y_fld ?_
    refine y_var rfl ?_
    refine o_fld (i := 1) cf_Replay (fun r h => mgE r (mi_self r h)) z rfl rfl ?_
    refine y_nil ?_
    refine y_len (LV.sub d_self__due_ mgE) z ?_
    refine y_nil ?_
    refine k_srcR1 (K := K) (Ho := Ho) hw.1 (fun J T => ?_)
    replace hw := (run_gd hw).2
    refine y_lcG z mgN T hw (fun r1 hand_ v_hand_ H Ho N N' e z d_hand_ hw => ?_) (fun t10 H Ho e hw p7 ws8 z d9 => ?_)
    · replace z : Zs ([r1] ++ amb) H Ho := z
      replace dB_self := BC_Replay.mo dB_self e
      replace d_self__due_ := LV.mo d_self__due_ e
      replace d_self__going_ := BC_Works.mo d_self__going_ e
      replace d_self__gone_ := LV.mo d_self__gone_ e
      replace d_self__ties_ := LV.mo d_self__ties_ e
      have es2 := (Same.refl _).trans e
      obtain rfl := d_int d_hand_
      refine y_gname (σ' := [some (V.ref a_self), none, some (V.int hand_)]) rfl ?_
      refine ⟨rfl, ?_⟩
      refine y_not ?_
      refine y_tB ?_
      refine y_meth ?_
      refine y_var rfl ?_
      refine o_met (fun r h => (mgS mgE) r (mi_self r h)) z (by decide +kernel) ?_
      refine y_cons ?_
      refine y_var rfl ?_
      refine y_nil ?_
      refine ⟨([r1] ++ amb), _, _, _, _, _, rfl, z, (BC_Replay.sub dB_self (mgS mgE)), (Dq.int _), ?_⟩
      refine exm_mono (run_sure hw) (fun t3 hw v H Ho e z d4 => ?_) (fun _ hw => hw.elim)
      replace dB_self := BC_Replay.mo dB_self e
      replace d_self__due_ := LV.mo d_self__due_ e
      replace d_self__going_ := BC_Works.mo d_self__going_ e
      replace d_self__gone_ := LV.mo d_self__gone_ e
      replace d_self__ties_ := LV.mo d_self__ties_ e
      have es6 := (Same.refl _).trans e
      first | obtain rfl := d_bool d4 | cases d_bool d4
      refine ⟨_, rfl, ?_⟩
      refine w_two (fun hb => ?_) (fun hb => ?_)
      · replace hw := run_itT (run_ret hw) hb
        refine y_var rfl ?_
        exact (run_ret hw) _ _ _ es6 z (Dq.int _)
      · exact run_itF (run_ret hw) hb _ _ es6 z
    replace dB_self := BC_Replay.mo dB_self e
    replace d_self__due_ := LV.mo d_self__due_ e
    replace d_self__going_ := BC_Works.mo d_self__going_ e
    replace d_self__gone_ := LV.mo d_self__gone_ e
    replace d_self__ties_ := LV.mo d_self__ties_ e
    have es11 := (Same.refl _).trans e
    replace z : Zs ([(p7, HO.lst ws8)] ++ amb) H Ho := z
    have o12 := OL.mk (p := p7) d9
    refine l_fr o12 z (fun Ho e z d13 => ?_)
    replace dB_self := BC_Replay.mo dB_self e
    replace d_self__due_ := LV.mo d_self__due_ e
    replace d_self__going_ := BC_Works.mo d_self__going_ e
    replace d_self__gone_ := LV.mo d_self__gone_ e
    replace d_self__ties_ := LV.mo d_self__ties_ e
    have es14 := es11.trans e
    refine l_d (K := K) (Ho := Ho) hw d13 (fun waiting_ v_waiting_ d_waiting_ hw => ?_)
    refine y_ret ?_
    refine y_lc ?_
    refine k_iList ?_
    refine y_var rfl ?_
    refine k_srcL (r0 := ([] : Grp)) (LV.of d_waiting_) mgN z (fun J T => ?_)
    refine y_lcG z mgN T hw (fun r15 hand_ v_hand_ H Ho N N' e z d_hand_ hw => ?_) (fun t24 H Ho e hw p21 ws22 z d23 => ?_)
    · replace z : Zs ([r15] ++ amb) H Ho := z
      replace dB_self := BC_Replay.mo dB_self e
      replace d_self__due_ := LV.mo d_self__due_ e
      replace d_self__going_ := BC_Works.mo d_self__going_ e
      replace d_self__gone_ := LV.mo d_self__gone_ e
      replace d_self__ties_ := LV.mo d_self__ties_ e
      replace d_waiting_ := D.mo d_waiting_ e
      have es16 := es14.trans e
      obtain rfl := d_int d_hand_
      refine y_gname (σ' := [some (V.ref a_self), some v_waiting_, some (V.int hand_)]) rfl ?_
      refine ⟨rfl, ?_⟩
      refine y_test ?_
      refine y_op ?_
      refine y_meth ?_
      refine y_var rfl ?_
      refine o_met (fun r h => (mgS mgE) r (mi_self r h)) z (by decide +kernel) ?_
      refine y_cons ?_
      refine y_var rfl ?_
      refine y_nil ?_
      refine ⟨([r15] ++ amb), _, _, _, _, _, rfl, z, (BC_Replay.sub dB_self (mgS mgE)), (Dq.int _), ?_⟩
      refine run_mono3 hw (fun t17 hw v H Ho e z d18 => ?_)
      replace dB_self := BC_Replay.mo dB_self e
      replace d_self__due_ := LV.mo d_self__due_ e
      replace d_self__going_ := BC_Works.mo d_self__going_ e
      replace d_self__gone_ := LV.mo d_self__gone_ e
      replace d_self__ties_ := LV.mo d_self__ties_ e
      replace d_waiting_ := D.mo d_waiting_ e
      have es20 := (Same.refl _).trans e
      refine y_c ?_
      refine ⟨rfl, ?_⟩
      rw [dec_non d18 hw.1]
      replace hw := (run_gd hw).2
      refine ⟨_, rfl, ?_⟩
      refine w_two (fun hb => ?_) (fun hb => ?_)
      · replace hw := run_itT (run_ret hw) hb
        refine y_var rfl ?_
        exact (run_ret hw) _ _ _ es20 z (Dq.int _)
      · exact run_itF (run_ret hw) hb _ _ es20 z
    replace dB_self := BC_Replay.mo dB_self e
    replace d_self__due_ := LV.mo d_self__due_ e
    replace d_self__going_ := BC_Works.mo d_self__going_ e
    replace d_self__gone_ := LV.mo d_self__gone_ e
    replace d_self__ties_ := LV.mo d_self__ties_ e
    replace d_waiting_ := D.mo d_waiting_ e
    have es25 := es14.trans e
    replace z : Zs ([(p21, HO.lst ws22)] ++ amb) H Ho := z
    have o26 := OL.mk (p := p21) d23
    exact (exP_ok (run_ret hw)) _ _ _ _ es25 z o26
def sp_Replay_counts (K : PySem.W.Frag) (cl tb : Nat → Addr) : Sp := fun vs H Q E => ∃ (amb : Grp) (Ho : Hp) (v0 : V) (x0 : ObReplay), vs = [v0] ∧ Zs amb H Ho ∧ BC_Replay K amb Ho v0 x0 ∧ (m_Replay_counts x0).run fun r => ∀ v g H' Ho', Same Ho Ho' → Zs (g ++ amb) H' Ho' → OL K Ho' v r g → Q v H'
abbrev s_Replay_counts : Stmt := inClass (topS 12) 5
theorem sc_Replay_counts : FnScope ["self"] ["self"] (defScope s_Replay_counts) := ⟨rfl, rfl, rfl, by decide +kernel, rfl, by decide +kernel, by decide +kernel⟩
theorem ok_Replay_counts {f : Addr} {fd : FuncData} (F : Fun K "counts" "Replay.counts" s_Replay_counts f fd) {q_Replay : Addr} (m_list : mg "list" = none) (cf_Replay : CF K q_Replay "Replay" ns_Replay) :
    FnOk P w K mg base CX0 1 f fd ["self"] (sp_Replay_counts K cl tb) := by
  refine F.ok sc_Replay_counts (fun vs H Q E h => ?_) (fun cdv A outer s H vs Q E hr h => ?_)
  · obtain ⟨amb, Ho, v_self_, self_, rfl, _⟩ := h
    rfl
  · obtain ⟨amb, Ho, v_self_, self_, rfl, z, d_self_, hw⟩ := h
    refine ⟨_, pss_cons (ps_ret (pe_callTy (zlist (K := K) rfl) (by rfl) m_list (by decide +kernel) (pa_cons (zpe_fld (K := K) rfl (pv 0) rfl) (pa_nil)))) (pss_nil), ?_⟩
    have dB_self := d_self_
    obtain ⟨g_self_, d_self_, mg_self_⟩ := d_self_
    refine OC_Replay.rd cf_Replay d_self_ mg_self_ (fun a_self dx_self v_self__going_ v_self__due_ v_self__ties_ v_self__gone_ g_self__going_ g_self__due_ g_self__ties_ g_self__gone_ hv d_self__going_ d_self__due_ d_self__ties_ d_self__gone_ mi_self mg_self__going_ mg_self__due_ mg_self__ties_ mg_self__gone_ => ?_)
    cases hv
    have d_self__going_ : BC_Works K amb Ho v_self__going_ _ := ⟨_, d_self__going_, mg_self__going_⟩
    refine h_nmG (P := fun x => BC_Works K amb Ho v_self__going_ x) hw d_self__going_ (fun self__going_ d_self__going_ hw => ?_)
    have d_self__due_ : LV K amb Ho v_self__due_ _ := OL.lv d_self__due_ mg_self__due_
    refine h_nmG (P := fun x => LV K amb Ho v_self__due_ x) hw d_self__due_ (fun self__due_ d_self__due_ hw => ?_)
    have d_self__ties_ : LV K amb Ho v_self__ties_ _ := OL.lv d_self__ties_ mg_self__ties_
    refine h_nmG (P := fun x => LV K amb Ho v_self__ties_ x) hw d_self__ties_ (fun self__ties_ d_self__ties_ hw => ?_)
    have d_self__gone_ : LV K amb Ho v_self__gone_ _ := OL.lv d_self__gone_ mg_self__gone_
    refine h_nmG (P := fun x => LV K amb Ho v_self__gone_ x) hw d_self__gone_ (fun self__gone_ d_self__gone_ hw => ?_)
    refine y_ret ?_
    refine y_cb ?_
    refine y_cons ?_
    refine y_fld ?_
    refine y_var rfl ?_
    refine o_fld (i := 3) cf_Replay (fun r h => mgE r (mi_self r h)) z rfl rfl ?_
    refine y_nil ?_
    refine y_list (LV.sub d_self__gone_ mgE) z (fun H p1 ws2 z d3 => ?_)
    replace z : Zs ([(p1, HO.lst ws2)] ++ amb) H Ho := z
    have o4 := OL.mk (p := p1) d3
    exact (run_ret hw) _ _ _ _ (Same.refl _) z o4
def sp_Replay_done (K : PySem.W.Frag) (cl tb : Nat → Addr) : Sp := fun vs H Q E => ∃ (amb : Grp) (Ho : Hp) (v0 : V) (x0 : ObReplay), vs = [v0] ∧ Zs amb H Ho ∧ BC_Replay K amb Ho v0 x0 ∧ (m_Replay_done x0).run fun r => ∀ v H' Ho', Same Ho Ho' → Zs amb H' Ho' → Z.D K Ho' v r → Q v H'
abbrev s_Replay_done : Stmt := inClass (topS 12) 6
theorem sc_Replay_done : FnScope ["self"] ["self"] (defScope s_Replay_done) := ⟨rfl, rfl, rfl, by decide +kernel, rfl, by decide +kernel, by decide +kernel⟩
theorem ok_Replay_done {f : Addr} {fd : FuncData} (F : Fun K "done" "Replay.done" s_Replay_done f fd) {q_Replay : Addr} (cf_Replay : CF K q_Replay "Replay" ns_Replay) :
    FnOk P w K mg base CX0 1 f fd ["self"] (sp_Replay_done K cl tb) := by
  refine F.ok sc_Replay_done (fun vs H Q E h => ?_) (fun cdv A outer s H vs Q E hr h => ?_)
  · obtain ⟨amb, Ho, v_self_, self_, rfl, _⟩ := h
    rfl
  · obtain ⟨amb, Ho, v_self_, self_, rfl, z, d_self_, hw⟩ := h
    refine ⟨_, pss_cons (ps_ret (pe_cmpR (zop_eqD (K := K) rfl hr.units) (zpe_fld (K := K) rfl (pv 0) rfl) (zpe_fld (K := K) rfl (pv 0) rfl) (nomark _))) (pss_nil), ?_⟩
    have dB_self := d_self_
    obtain ⟨g_self_, d_self_, mg_self_⟩ := d_self_
    refine OC_Replay.rd cf_Replay d_self_ mg_self_ (fun a_self dx_self v_self__going_ v_self__due_ v_self__ties_ v_self__gone_ g_self__going_ g_self__due_ g_self__ties_ g_self__gone_ hv d_self__going_ d_self__due_ d_self__ties_ d_self__gone_ mi_self mg_self__going_ mg_self__due_ mg_self__ties_ mg_self__gone_ => ?_)
    cases hv
    have d_self__going_ : BC_Works K amb Ho v_self__going_ _ := ⟨_, d_self__going_, mg_self__going_⟩
    refine h_nmG (P := fun x => BC_Works K amb Ho v_self__going_ x) hw d_self__going_ (fun self__going_ d_self__going_ hw => ?_)
    have d_self__due_ : LV K amb Ho v_self__due_ _ := OL.lv d_self__due_ mg_self__due_
    refine h_nmG (P := fun x => LV K amb Ho v_self__due_ x) hw d_self__due_ (fun self__due_ d_self__due_ hw => ?_)
    have d_self__ties_ : LV K amb Ho v_self__ties_ _ := OL.lv d_self__ties_ mg_self__ties_
    refine h_nmG (P := fun x => LV K amb Ho v_self__ties_ x) hw d_self__ties_ (fun self__ties_ d_self__ties_ hw => ?_)
    have d_self__gone_ : LV K amb Ho v_self__gone_ _ := OL.lv d_self__gone_ mg_self__gone_
    refine h_nmG (P := fun x => LV K amb Ho v_self__gone_ x) hw d_self__gone_ (fun self__gone_ d_self__gone_ hw => ?_)
    refine y_ret ?_
    refine y_op ?_
    refine y_fld ?_
    refine y_var rfl ?_
    refine o_fld (i := 3) cf_Replay (fun r h => mgE r (mi_self r h)) z rfl rfl ?_
    refine y_fld ?_
    refine y_var rfl ?_
    refine o_fld (i := 1) cf_Replay (fun r h => mgE r (mi_self r h)) z rfl rfl ?_
    refine y_eqD (LV.dp (LV.sub d_self__gone_ mgE) z) (LV.dp (LV.sub d_self__due_ mgE) z) hw.1 ?_
    replace hw := (run_gd hw).2
    exact (run_ret hw) _ _ _ (Same.refl _) z (Dq.bl _)
def sp_Replay___len__ (K : PySem.W.Frag) (cl tb : Nat → Addr) : Sp := fun vs H Q E => ∃ (amb : Grp) (Ho : Hp) (v0 : V) (x0 : ObReplay), vs = [v0] ∧ Zs amb H Ho ∧ BC_Replay K amb Ho v0 x0 ∧ (m_Replay___len__ x0).run fun r => ∀ v H' Ho', Same Ho Ho' → Zs amb H' Ho' → Z.D K Ho' v r → Q v H'
abbrev s_Replay___len__ : Stmt := inClass (topS 12) 9
theorem sc_Replay___len__ : FnScope ["self"] ["self"] (defScope s_Replay___len__) := ⟨rfl, rfl, rfl, by decide +kernel, rfl, by decide +kernel, by decide +kernel⟩
theorem ok_Replay___len__ {f : Addr} {fd : FuncData} (F : Fun K "__len__" "Replay.__len__" s_Replay___len__ f fd) {q_Replay : Addr} (m_sum : mg "sum" = none) (m_len : mg "len" = none) (m_range : mg "range" = none) (cf_Replay : CF K q_Replay "Replay" ns_Replay) :
    FnOk P w K mg base CX0 1 f fd ["self"] (sp_Replay___len__ K cl tb) := by
  refine F.ok sc_Replay___len__ (fun vs H Q E h => ?_) (fun cdv A outer s H vs Q E hr h => ?_)
  · obtain ⟨amb, Ho, v_self_, self_, rfl, _⟩ := h
    rfl
  · obtain ⟨amb, Ho, v_self_, self_, rfl, z, d_self_, hw⟩ := h
    refine ⟨_, pss_cons (ps_ret (pe_lenRg (by rfl) m_len (by decide +kernel) (prg_1 (by rfl) m_range (pe_op op_sub (pe_callB (zsum (K := K) rfl rfl) (by rfl) m_sum (by decide +kernel) (pa_cons (zpe_fld (K := K) rfl (pv 0) rfl) (pa_nil))) (pe_callB (zsum (K := K) rfl rfl) (by rfl) m_sum (by decide +kernel) (pa_cons (zpe_fld (K := K) rfl (pv 0) rfl) (pa_nil))))))) (pss_nil), ?_⟩
    have dB_self := d_self_
    obtain ⟨g_self_, d_self_, mg_self_⟩ := d_self_
    refine OC_Replay.rd cf_Replay d_self_ mg_self_ (fun a_self dx_self v_self__going_ v_self__due_ v_self__ties_ v_self__gone_ g_self__going_ g_self__due_ g_self__ties_ g_self__gone_ hv d_self__going_ d_self__due_ d_self__ties_ d_self__gone_ mi_self mg_self__going_ mg_self__due_ mg_self__ties_ mg_self__gone_ => ?_)
    cases hv
    have d_self__going_ : BC_Works K amb Ho v_self__going_ _ := ⟨_, d_self__going_, mg_self__going_⟩
    refine h_nmG (P := fun x => BC_Works K amb Ho v_self__going_ x) hw d_self__going_ (fun self__going_ d_self__going_ hw => ?_)
    have d_self__due_ : LV K amb Ho v_self__due_ _ := OL.lv d_self__due_ mg_self__due_
    refine h_nmG (P := fun x => LV K amb Ho v_self__due_ x) hw d_self__due_ (fun self__due_ d_self__due_ hw => ?_)
    have d_self__ties_ : LV K amb Ho v_self__ties_ _ := OL.lv d_self__ties_ mg_self__ties_
    refine h_nmG (P := fun x => LV K amb Ho v_self__ties_ x) hw d_self__ties_ (fun self__ties_ d_self__ties_ hw => ?_)
    have d_self__gone_ : LV K amb Ho v_self__gone_ _ := OL.lv d_self__gone_ mg_self__gone_
    refine h_nmG (P := fun x => LV K amb Ho v_self__gone_ x) hw d_self__gone_ (fun self__gone_ d_self__gone_ hw => ?_)
    refine y_ret ?_
    refine k_lenRg ?_
    refine y_rg1 ?_
    refine y_op ?_
    refine y_cb ?_
    refine y_cons ?_
    refine y_fld ?_
    refine y_var rfl ?_
    refine o_fld (i := 1) cf_Replay (fun r h => mgE r (mi_self r h)) z rfl rfl ?_
    refine y_nil ?_
    refine y_sum (LV.sub d_self__due_ mgE) z ?_
    refine y_cb ?_
    refine y_cons ?_
    refine y_fld ?_
    refine y_var rfl ?_
    refine o_fld (i := 3) cf_Replay (fun r h => mgE r (mi_self r h)) z rfl rfl ?_
    refine y_nil ?_
    refine y_sum (LV.sub d_self__gone_ mgE) z ?_
    refine y_i0 ?_
    refine ⟨_, rfl, hw.1, ?_⟩
    replace hw := (run_gd hw).2
    exact (run_ret hw) _ _ _ (Same.refl _) z (Dq.int _)
def sp_law_asked (K : PySem.W.Frag) (cl tb : Nat → Addr) : Sp := fun vs H Q E => ∃ (amb : Grp) (Ho : Hp) (v0 : V) (x0 : (List (List Int))) (g0 : Grp) (v1 : V) (x1 : (List Int)), vs = [v0, v1] ∧ Zs (g0 ++ amb) H Ho ∧ OL K Ho v0 x0 g0 ∧ LV K amb Ho v1 x1 ∧ (m_law_asked x0 x1).run fun r => ∀ v h0 H' Ho', Same Ho Ho' → Zs (h0 ++ amb) H' Ho' → Z.D K Ho' v r.1 → OL K Ho' v0 r.2 h0 → Q v H'
abbrev s_law_asked : Stmt := topS 41
theorem sc_law_asked : FnScope ["seen", "free"] ["seen", "free"] (defScope s_law_asked) := ⟨rfl, rfl, rfl, by decide +kernel, rfl, by decide +kernel, by decide +kernel⟩
theorem ok_law_asked {f : Addr} {fd : FuncData} (F : Fun K "_law_asked" "_law_asked" s_law_asked f fd) (m_list : mg "list" = none) :
    FnOk P w K mg base CX0 1 f fd ["seen", "free"] (sp_law_asked K cl tb) := by
  refine F.ok sc_law_asked (fun vs H Q E h => ?_) (fun cdv A outer s H vs Q E hr h => ?_)
  · obtain ⟨amb, Ho, v_seen_, seen_, g_seen_, v_free_, free_, rfl, _⟩ := h
    rfl
  · obtain ⟨amb, Ho, v_seen_, seen_, g_seen_, v_free_, free_, rfl, z, d_seen_, d_free_, hw⟩ := h
    refine ⟨_, pss_cons (ps_expr (pe_bm PySem.F.plainAttrs_list PySem.F.slot_list_append PySem.F.type_list_append mt_append (pv 0) (pa_cons (pe_callTy (zlist (K := K) rfl) (by rfl) m_list (by decide +kernel) (pa_cons (pv 1) (pa_nil))) (pa_nil)))) (pss_cons (ps_ret (pe_ix (zix_list (K := K) rfl) (pv 1) (pe_int) (fun _ _ => rfl))) (pss_nil)), ?_⟩
    refine y_drop ?_
    refine y_bm ?_
    refine y_var rfl ?_
    refine g_tyL (OL.lv d_seen_ mg0) z ?_
    refine y_cons ?_
    refine y_cb ?_
    refine y_cons ?_
    refine y_var rfl ?_
    refine y_nil ?_
    refine y_list (LV.sub d_free_ (mgS mgE)) z (fun H p1 ws2 z d3 => ?_)
    replace z : Zs ([(p1, HO.lst ws2)] ++ (g_seen_ ++ amb)) H Ho := z
    have o4 := OL.mk (p := p1) d3
    refine y_nil ?_
    refine l_fr o4 z (fun Ho e z d5 => ?_)
    replace d_free_ := LV.mo d_free_ e
    replace d_seen_ := OL.mo d_seen_ e
    have es6 := (Same.refl _).trans e
    refine g_app z d_seen_ d5 hw (fun seen_ g_seen_ H z d_seen_ hw => ?_)
    refine y_ret ?_
    refine y_op ?_
    refine y_var rfl ?_
    refine y_c ?_
    refine y_ixL (LV.sub d_free_ (mgS mgE)) z hw (fun t7 w d8 hw => ?_)
    first | obtain rfl := d_int d8 | cases d_int d8
    exact (run_ret hw) _ _ _ _ es6 z (Dq.int _) d_seen_
abbrev l_law_played__lam0 : Expr := (laA 2 (laE ((laB ((defBody (topS 42)).getD 2 (.Pass ⟨0, 0, 0, 0⟩))).getD 0 (.Pass ⟨0, 0, 0, 0⟩))))
def sp_law_played__lam0 (K : PySem.W.Frag) (cl tb : Nat → Addr) : Sp := fun vs H Q E => ∃ (amb : Grp) (Ho : Hp) (v0 : V) (x0 : (List Int)) (v1 : V) (x1 : (List (List Int))) (g1 : Grp), vs = [v0, v1] ∧ Zs (g1 ++ amb) H Ho ∧ LV K amb Ho v0 x0 ∧ OL K Ho v1 x1 g1 ∧ (m_law_played__lam0 x0 x1).run fun r => ∀ v h1 H' Ho', Same Ho Ho' → Zs (h1 ++ amb) H' Ho' → Z.D K Ho' v r.1 → OL K Ho' v1 r.2 h1 → Q v H'
theorem sc_law_played__lam0 : LamSc ["free"] ["seen"] (laS l_law_played__lam0) := ⟨rfl, rfl, rfl, by decide +kernel, by decide +kernel, by decide +kernel, by decide +kernel, by decide +kernel⟩
theorem ok_law_played__lam0 {f_law_asked : Addr} {fd_law_asked : FuncData} (c_law_asked : Cal P w K mg base CX0 "_law_asked" ["seen", "free"] 1 (sp_law_asked K cl tb) f_law_asked fd_law_asked) :
    LamOk P w K mg base 2 "_law_played.<locals>.<lambda>" (laP l_law_played__lam0) (laY l_law_played__lam0) (laS l_law_played__lam0) ["free"] ["seen"] (sp_law_played__lam0 K cl tb) := by
  refine ⟨sc_law_played__lam0, fun vs H Q E h => ?_, (fun _ _ _ _ us hl => match us, hl with | [_], _ => rfl), fun A outer s H f c0 cl0 vs Q hr h => ?_⟩
  · obtain ⟨amb, Ho, v_free_, free_, v_seen_, seen_, g_seen_, rfl, _⟩ := h
    rfl
  · obtain ⟨amb, Ho, v_free_, free_, v_seen_, seen_, g_seen_, rfl, z, d_free_, d_seen_, hw⟩ := h
    refine ⟨_, pe_call c_law_asked.ok (hr.mono (by decide)) (by rfl) c_law_asked.g c_law_asked.kp c_law_asked.b .nil pass0 (pa_cons (pv 1) (pa_cons (pv 0) (pa_nil))), ?_⟩
    refine y_call ?_
    refine y_cons ?_
    refine y_var rfl ?_
    refine y_cons ?_
    refine y_var rfl ?_
    refine y_nil ?_
    refine ⟨amb, _, _, _, _, _, _, rfl, z, d_seen_, (LV.sub d_free_ mgE), ?_⟩
    refine run_mono2 hw (fun t1 seen_ hw v g_seen_ H Ho e z d2 d_seen_ => ?_)
    replace d2 : Z.D K Ho v t1 := d2
    replace d_seen_ : OL K Ho v_seen_ seen_ g_seen_ := d_seen_
    replace d_free_ := LV.mo d_free_ e
    have es4 := (Same.refl _).trans e
    first | obtain rfl := d_int d2 | cases d_int d2
    exact (run_ret hw) _ _ _ _ es4 z (Dq.int _) d_seen_
def sp_played (K : PySem.W.Frag) (cl tb : Nat → Addr) : Sp := fun vs H Q E => ∃ (amb : Grp) (Ho : Hp) (v0 : V) (x0 : ObWorks) (v1 : V) (x1 : ((List Int) × (List (P4 Int Int Int Int)))) (v2 : V) (x2 : Unit) (g2 : Grp) (v3 : V) (x3 : (List (List Int))) (g3 : Grp), vs = [v0, v1, v2] ∧ Zs (g3 ++ (g2 ++ amb)) H Ho ∧ BC_Works K amb Ho v0 x0 ∧ LP K amb Ho v1 x1 ∧ OLam "_law_played.<locals>.<lambda>" (laP l_law_played__lam0) (laY l_law_played__lam0) (laS l_law_played__lam0) ["seen"] [v3] K Ho v2 x2 g2 ∧ OL K Ho v3 x3 g3 ∧ (m_played x0 x1 x2 x3).run (ExP (fun r => ∀ v g h3 H' Ho', Same Ho Ho' → Zs (g ++ (h3 ++ (g2 ++ amb))) H' Ho' → OL K Ho' v r.1 g → OL K Ho' v3 r.2 h3 → Q v H') fun e => ∀ H' Ho' d, Same Ho Ho' → Zs (g3 ++ (g2 ++ amb)) H' Ho' → ErD K Ho' d e → E (.ref (cl e.cls)) d H')
abbrev s_played : Stmt := topS 13
theorem sc_played : FnScope ["works", "record", "choose", "replay", "order", "free", "hand"] ["works", "record", "choose"] (defScope s_played) := ⟨rfl, rfl, rfl, by decide +kernel, rfl, by decide +kernel, by decide +kernel⟩
theorem ok_played {f : Addr} {fd : FuncData} (F : Fun K "played" "played" s_played f fd) {q_Replay : Addr} {f_Replay___init__ : Addr} {fd_Replay___init__ : FuncData} (c_Replay___init__ : KCal P w K mg base (L2.CX P w) q_Replay "Replay" ["self", "works", "record"] 11 (sp_Replay___init__ K cl tb) f_Replay___init__ fd_Replay___init__) {f_Replay_free : Addr} {fd_Replay_free : FuncData} (c_Replay_free : MCal P w K mg base (L2.CX P w) q_Replay "free" ["self"] 4 (sp_Replay_free K cl tb) f_Replay_free fd_Replay_free) (c_law_played__lam0 : LamOk P w K mg base 2 "_law_played.<locals>.<lambda>" (laP l_law_played__lam0) (laY l_law_played__lam0) (laS l_law_played__lam0) ["free"] ["seen"] (sp_law_played__lam0 K cl tb)) {f_Replay_turn : Addr} {fd_Replay_turn : FuncData} (c_Replay_turn : MCal P w K mg base (L2.CX P w) q_Replay "turn" ["self", "hand"] 9 (sp_Replay_turn K cl tb) f_Replay_turn fd_Replay_turn) (m_list : mg "list" = none) (cf_Replay : CF K q_Replay "Replay" ns_Replay) :
    FnOk P w K mg base (L2.CX P w) 13 f fd ["works", "record", "choose"] (sp_played K cl tb) := by
  refine F.okX sc_played (fun vs H Q E h => ?_) (fun cdv A outer s H vs Q E hr h => ?_)
  · obtain ⟨amb, Ho, v_works_, works_, v_record_, record_, v_choose_, choose_, g_choose_, v_seen_, seen_, g_seen_, rfl, _⟩ := h
    rfl
  · obtain ⟨amb, Ho, v_works_, works_, v_record_, record_, v_choose_, choose_, g_choose_, v_seen_, seen_, g_seen_, rfl, z, d_works_, d_record_, d_choose_, d_seen_, hw⟩ := h
    refine ⟨_, pss_cons (ps_set (i := 3) sc_played.nd rfl (Or.inl rfl) ((by exact (pe_makeS c_Replay___init__.mk_ c_Replay___init__.ok (hr.mono (by decide)) (by rfl) c_Replay___init__.g c_Replay___init__.b (fun σ => passAt (takes_of rfl rfl rfl rfl) σ) (pa_cons (pv 0) (pa_cons (pv 1) (pa_nil))))))) (pss_cons (ps_set (i := 4) sc_played.nd rfl (Or.inl rfl) (pe_lst (pa_nil))) (pss_cons (ps_set (i := 5) sc_played.nd rfl (Or.inl rfl) ((by exact (pe_methS0' (pv 3) cf_Replay.cl c_Replay_free.me c_Replay_free.ok (hr.mono (by decide)) c_Replay_free.b (fun σ => passAt (takes_of rfl rfl rfl rfl) σ))))) (pss_cons (ps_while (passes_of rfl) (pt_cmpR (zop_neD (K := K) rfl hr.units) (pv 5) (pe_lst (pa_nil)) (nomark _)) (pss_cons (ps_set (i := 6) sc_played.nd rfl (Or.inl rfl) (pe_callLam c_law_played__lam0 (hr.mono (by decide)) (i := 2) rfl (Or.inl rfl) (pa_cons (pe_callTy (zlist (K := K) rfl) (by rfl) m_list (by decide +kernel) (pa_cons (pv 5) (pa_nil))) (pa_nil)))) (pss_cons (ps_if (pt_cmpR (zop_notInD (K := K) rfl (room65 hr)) (pv 6) (pv 5) rfl) (pss_cons (ps_never) (pss_nil)) (pss_nil)) (pss_cons (ps_expr ((by exact (pe_methS' (pv 3) cf_Replay.cl c_Replay_turn.me c_Replay_turn.ok (hr.mono (by decide)) c_Replay_turn.b (fun σ => passAt (takes_of rfl rfl rfl rfl) σ) (pa_cons (pv 6) (pa_nil)))))) (pss_cons (ps_expr (pe_bm PySem.F.plainAttrs_list PySem.F.slot_list_append PySem.F.type_list_append mt_append (pv 4) (pa_cons (pv 6) (pa_nil)))) (pss_cons (ps_set (i := 5) sc_played.nd rfl (Or.inl rfl) ((by exact (pe_methS0' (pv 3) cf_Replay.cl c_Replay_free.me c_Replay_free.ok (hr.mono (by decide)) c_Replay_free.b (fun σ => passAt (takes_of rfl rfl rfl rfl) σ))))) (pss_nil))))))) (pss_cons (ps_ret (pv 4)) (pss_nil))))), ?_⟩
    obtain ⟨v_record__0_, v_record__1_, t_record_, d_record__0_, d_record__1_⟩ := d_record_
    refine h_nmG (P := fun x => LV K amb Ho v_record__0_ x) hw d_record__0_ (fun record__0_ d_record__0_ hw => ?_)
    refine h_nmG (P := fun x => LV K amb Ho v_record__1_ x) hw d_record__1_ (fun record__1_ d_record__1_ hw => ?_)
    refine l_asg (fun v => [_, _, _, some v, _, _, _]) (fun _ => rfl) ?_
    refine y_make ?_
    refine y_cons ?_
    refine y_var rfl ?_
    refine y_cons ?_
    refine y_var rfl ?_
    refine y_nil ?_
    refine o_mk (ns := ns_Replay) z (fun a dx H Ho e z => ?_)
    replace d_choose_ := OLam.mo d_choose_ e
    replace t_record_ := TupAt.mo t_record_ e
    replace d_record__0_ := LV.mo d_record__0_ e
    replace d_record__1_ := LV.mo d_record__1_ e
    replace d_seen_ := OL.mo d_seen_ e
    replace d_works_ := BC_Works.mo d_works_ e
    have es1 := (Same.refl _).trans e
    refine ⟨(g_seen_ ++ (g_choose_ ++ amb)), _, a, dx, _, _, _, _, _, rfl, z, cf_Replay.at_, (BC_Works.sub d_works_ (mgS (mgS mgE))), (LP.of2 t_record_ (LV.sub d_record__0_ (mgS (mgS mgE))) (LV.sub d_record__1_ (mgS (mgS mgE)))), ?_⟩
    refine exm_mono (run_exm hw) (fun t2 hw g4 H Ho e z d3 => ⟨rfl, ?_⟩) (fun er hw H Ho e z her => ?_)
    rotate_left
    · exact exP_er (run_ret hw) _ _ _ (es1.trans e) z (.inl ⟨her, rfl⟩)
    replace d_choose_ := OLam.mo d_choose_ e
    replace t_record_ := TupAt.mo t_record_ e
    replace d_record__0_ := LV.mo d_record__0_ e
    replace d_record__1_ := LV.mo d_record__1_ e
    replace d_seen_ := OL.mo d_seen_ e
    replace d_works_ := BC_Works.mo d_works_ e
    have es5 := es1.trans e
    refine l_oG (P := OC_Replay K Ho) hw z d3 (fun replay_ v_replay_ g_replay_ z d_replay_ hw => ?_)
    refine l_asg (fun v => [_, _, _, _, some v, _, _]) (fun _ => rfl) ?_
    refine k_lst ?_
    refine y_nil ?_
    refine k_lstk (K := K) (xs := ([] : (List Int))) z DqAll.nil (by show 0 ≤ sizeLine; decide) (fun H p6 ws7 z d8 => ?_)
    replace z : Zs ([(p6, HO.lst ws7)] ++ (g_replay_ ++ (g_seen_ ++ (g_choose_ ++ amb)))) H Ho := z
    have o9 := OL.mk (p := p6) d8
    refine l_o hw z o9 (fun order_ v_order_ g_order_ z d_order_ hw => ?_)
    refine l_asg (fun v => [_, _, _, _, _, some v, _]) (fun _ => rfl) ?_
    refine y_meth ?_
    refine y_var rfl ?_
    refine OC_Replay.met cf_Replay d_replay_ (mgS mg0) z (by decide +kernel) ?_
    refine y_nil ?_
    refine ⟨(g_order_ ++ (g_replay_ ++ (g_seen_ ++ (g_choose_ ++ amb)))), _, _, _, rfl, z, ⟨_, d_replay_, (mgS mg0)⟩, ?_⟩
    refine exm_mono (run_sure hw) (fun t10 hw v g12 H Ho e z d11 => ?_) (fun _ hw => hw.elim)
    replace d_choose_ := OLam.mo d_choose_ e
    replace d_order_ := OL.mo d_order_ e
    replace t_record_ := TupAt.mo t_record_ e
    replace d_record__0_ := LV.mo d_record__0_ e
    replace d_record__1_ := LV.mo d_record__1_ e
    replace d_replay_ := OC_Replay.mo d_replay_ e
    replace d_seen_ := OL.mo d_seen_ e
    replace d_works_ := BC_Works.mo d_works_ e
    have es13 := es5.trans e
    refine l_fr d11 z (fun Ho e z d14 => ?_)
    replace d_choose_ := OLam.mo d_choose_ e
    replace d_order_ := OL.mo d_order_ e
    replace t_record_ := TupAt.mo t_record_ e
    replace d_record__0_ := LV.mo d_record__0_ e
    replace d_record__1_ := LV.mo d_record__1_ e
    replace d_replay_ := OC_Replay.mo d_replay_ e
    replace d_seen_ := OL.mo d_seen_ e
    replace d_works_ := BC_Works.mo d_works_ e
    have es15 := es13.trans e
    refine l_d (K := K) (Ho := Ho) hw d14 (fun free_ v_free_ d_free_ hw => ?_)
    refine y_while hw (fun (s : ObReplay × (List Int) × (List Int) × (List (List Int))) (σ : L2.St) (H Ho : Hp) => ∃ (g_replay_ : Grp) (g_order_ : Grp) (v_free_ : V) (g_seen_ : Grp) (y_hand_ : Option V), σ = [some v_works_, some v_record_, some v_choose_, some v_replay_, some v_order_, some v_free_, y_hand_] ∧ Zs (g_order_ ++ (g_replay_ ++ (g_seen_ ++ (g_choose_ ++ amb)))) H Ho ∧ OC_Replay K Ho v_replay_ s.1 g_replay_ ∧ OL K Ho v_order_ s.2.1 g_order_ ∧ Z.D K Ho v_free_ s.2.2.1 ∧ OL K Ho v_seen_ s.2.2.2 g_seen_) ⟨_, _, _, _, _, rfl, z, d_replay_, d_order_, d_free_, d_seen_⟩ ?_ ?_
    · intro s σ H Ho N B E hE e hI hw
      obtain ⟨replay_, order_, free_, seen_⟩ := s
      obtain ⟨g_replay_, g_order_, v_free_, g_seen_, y_hand_, rfl, z, d_replay_, d_order_, d_free_, d_seen_⟩ := hI
      replace d_choose_ := OLam.mo d_choose_ e
      replace t_record_ := TupAt.mo t_record_ e
      replace d_record__0_ := LV.mo d_record__0_ e
      replace d_record__1_ := LV.mo d_record__1_ e
      replace d_works_ := BC_Works.mo d_works_ e
      have es16 := es15.trans e
      refine y_test ?_
      refine y_op ?_
      refine y_var rfl ?_
      refine k_lst ?_
      refine y_nil ?_
      refine k_lstk (K := K) (xs := ([] : (List Int))) z DqAll.nil (by show 0 ≤ sizeLine; decide) (fun H p17 ws18 z d19 => ?_)
      replace z : Zs ([(p17, HO.lst ws18)] ++ (g_order_ ++ (g_replay_ ++ (g_seen_ ++ (g_choose_ ++ amb))))) H Ho := z
      have o20 := OL.mk (p := p17) d19
      refine y_neD (D.mo d_free_ z.le) (LV.dp (OL.lv o20 mg0) z) hw.1 ?_
      replace hw := (run_gd hw).2
      refine ⟨_, rfl, ?_⟩
      refine y_cases hw (fun hb hw => ?_) (fun hb hw => ?_)
      · refine ⟨_, hE, ?_⟩
        replace z : Zs (g_order_ ++ (g_replay_ ++ (g_seen_ ++ (g_choose_ ++ amb)))) _ _ := z.go [[(p17, HO.lst ws18)], g_order_, g_replay_, g_seen_, g_choose_] amb [1, 2, 3, 4]
        refine l_asg (fun v => [_, _, _, _, _, _, some v]) (fun _ => rfl) ?_
        replace z : Zs (g_choose_ ++ (g_order_ ++ (g_replay_ ++ (g_seen_ ++ amb)))) _ _ := z.go [g_order_, g_replay_, g_seen_, g_choose_] amb [3, 0, 1, 2]
        refine y_lamN d_choose_ z rfl ?_
        refine y_cons ?_
        refine y_cb ?_
        refine y_cons ?_
        refine y_var rfl ?_
        refine y_nil ?_
        refine y_list (LV.of d_free_) z (fun H p21 ws22 z d23 => ?_)
        replace z : Zs ([(p21, HO.lst ws22)] ++ (g_choose_ ++ (g_order_ ++ (g_replay_ ++ (g_seen_ ++ amb))))) H Ho := z
        have o24 := OL.mk (p := p21) d23
        refine y_nil ?_
        replace z : Zs (g_choose_ ++ ([(p21, HO.lst ws22)] ++ (g_order_ ++ (g_replay_ ++ (g_seen_ ++ amb))))) _ _ := z.go [[(p21, HO.lst ws22)], g_choose_, g_order_, g_replay_, g_seen_] amb [1, 0, 2, 3, 4]
        refine y_lamC d_choose_ z (fun z => ?_)
        replace z : Zs (g_seen_ ++ ([(p21, HO.lst ws22)] ++ (g_order_ ++ (g_replay_ ++ amb)))) _ _ := z.go [[(p21, HO.lst ws22)], g_order_, g_replay_, g_seen_] amb [3, 0, 1, 2]
        refine ⟨([(p21, HO.lst ws22)] ++ (g_order_ ++ (g_replay_ ++ amb))), _, _, _, _, _, _, rfl, z, (OL.lv o24 mg0), d_seen_, ?_⟩
        refine run_mono2 hw (fun t25 seen_ hw v g_seen_ H Ho e z d26 d_seen_ => ?_)
        replace d26 : Z.D K Ho v t25 := d26
        replace d_seen_ : OL K Ho v_seen_ seen_ g_seen_ := d_seen_
        refine showK (fun nn28 => ?_)
        replace d_choose_ := OLam.mo d_choose_ e
        replace d_free_ := D.mo d_free_ e
        replace d_order_ := OL.mo d_order_ e
        replace t_record_ := TupAt.mo t_record_ e
        replace d_record__0_ := LV.mo d_record__0_ e
        replace d_record__1_ := LV.mo d_record__1_ e
        replace d_replay_ := OC_Replay.mo d_replay_ e
        replace d_works_ := BC_Works.mo d_works_ e
        have es29 := (Same.refl _).trans e
        replace z := z.show (OLam.xg d_choose_) nn28
        first | obtain rfl := d_int d26 | cases d_int d26
        refine l_i hw (fun hand_ hw => ?_)
        replace z : Zs (g_choose_ ++ (g_seen_ ++ (g_order_ ++ (g_replay_ ++ amb)))) _ _ := z.go [g_choose_, g_seen_, [(p21, HO.lst ws22)], g_order_, g_replay_] amb [0, 1, 3, 4]
        refine y_ifS ?_
        refine y_test ?_
        refine y_op ?_
        refine y_var rfl ?_
        refine y_var rfl ?_
        refine y_notInD (Dq.int _) (D.mo d_free_ z.le) hw.1 ?_
        replace hw := (run_gd hw).2
        refine ⟨_, rfl, ?_⟩
        refine y_cases hw (fun hb hw => ?_) (fun hb hw => ?_)
        · exact hw.elim
        · refine y_nxS ?_
          refine y_drop ?_
          refine y_meth ?_
          refine y_var rfl ?_
          refine OC_Replay.met cf_Replay d_replay_ (mgS (mgS (mgS mg0))) z (by decide +kernel) ?_
          refine y_cons ?_
          refine y_var rfl ?_
          refine y_nil ?_
          replace z : Zs (g_replay_ ++ (g_choose_ ++ (g_seen_ ++ (g_order_ ++ amb)))) _ _ := z.go [g_choose_, g_seen_, g_order_, g_replay_] amb [3, 0, 1, 2]
          refine ⟨(g_choose_ ++ (g_seen_ ++ (g_order_ ++ amb))), _, _, _, _, _, _, rfl, z, d_replay_, (Dq.int _), ?_⟩
          refine exm_mono (run_sure hw) ?_ (fun _ hw => hw.elim)
          rintro ⟨t30, replay_⟩ hw v g_replay_ H Ho e z d31 d_replay_
          replace d31 : Z.D K Ho v t30 := d31
          replace d_replay_ : OC_Replay K Ho v_replay_ replay_ g_replay_ := d_replay_
          replace d_choose_ := OLam.mo d_choose_ e
          replace d_free_ := D.mo d_free_ e
          replace d_order_ := OL.mo d_order_ e
          replace t_record_ := TupAt.mo t_record_ e
          replace d_record__0_ := LV.mo d_record__0_ e
          replace d_record__1_ := LV.mo d_record__1_ e
          replace d_seen_ := OL.mo d_seen_ e
          replace d_works_ := BC_Works.mo d_works_ e
          have es33 := es29.trans e
          refine y_drop ?_
          refine y_bm ?_
          refine y_var rfl ?_
          refine g_tyL (OL.lv d_order_ (mgS (mgS (mgS mg0)))) z ?_
          refine y_cons ?_
          refine y_var rfl ?_
          refine y_nil ?_
          replace z : Zs (g_order_ ++ (g_replay_ ++ (g_choose_ ++ (g_seen_ ++ amb)))) _ _ := z.go [g_replay_, g_choose_, g_seen_, g_order_] amb [3, 0, 1, 2]
          refine g_app z d_order_ (Dq.int _) hw (fun order_ g_order_ H z d_order_ hw => ?_)
          refine l_asg (fun v => [_, _, _, _, _, some v, _]) (fun _ => rfl) ?_
          refine y_meth ?_
          refine y_var rfl ?_
          refine OC_Replay.met cf_Replay d_replay_ (mgS mg0) z (by decide +kernel) ?_
          refine y_nil ?_
          refine ⟨(g_order_ ++ (g_replay_ ++ (g_choose_ ++ (g_seen_ ++ amb)))), _, _, _, rfl, z, ⟨_, d_replay_, (mgS mg0)⟩, ?_⟩
          refine exm_mono (run_sure hw) (fun t34 hw v g36 H Ho e z d35 => ?_) (fun _ hw => hw.elim)
          replace d_choose_ := OLam.mo d_choose_ e
          replace d_free_ := D.mo d_free_ e
          replace d_order_ := OL.mo d_order_ e
          replace t_record_ := TupAt.mo t_record_ e
          replace d_record__0_ := LV.mo d_record__0_ e
          replace d_record__1_ := LV.mo d_record__1_ e
          replace d_replay_ := OC_Replay.mo d_replay_ e
          replace d_seen_ := OL.mo d_seen_ e
          replace d_works_ := BC_Works.mo d_works_ e
          have es37 := es33.trans e
          refine l_fr d35 z (fun Ho e z d38 => ?_)
          replace d_choose_ := OLam.mo d_choose_ e
          replace d_free_ := D.mo d_free_ e
          replace d_order_ := OL.mo d_order_ e
          replace t_record_ := TupAt.mo t_record_ e
          replace d_record__0_ := LV.mo d_record__0_ e
          replace d_record__1_ := LV.mo d_record__1_ e
          replace d_replay_ := OC_Replay.mo d_replay_ e
          replace d_seen_ := OL.mo d_seen_ e
          replace d_works_ := BC_Works.mo d_works_ e
          have es39 := es37.trans e
          refine l_d (K := K) (Ho := Ho) hw d38 (fun free_ v_free_ d_free_ hw => ?_)
          replace z : Zs (g_order_ ++ (g_replay_ ++ (g_seen_ ++ (g_choose_ ++ amb)))) _ _ := z.go [g_order_, g_replay_, g_choose_, g_seen_] amb [0, 1, 3, 2]
          exact ctl_nx (run_ret hw) _ _ _ es39 ⟨_, _, _, _, _, rfl, z, d_replay_, d_order_, d_free_, d_seen_⟩
      · replace z : Zs (g_order_ ++ (g_replay_ ++ (g_seen_ ++ (g_choose_ ++ amb)))) _ _ := z.go [[(p17, HO.lst ws18)], g_order_, g_replay_, g_seen_, g_choose_] amb [1, 2, 3, 4]
        exact ctl_bk (run_ret hw) _ _ _ (Same.refl _) ⟨_, _, _, _, _, rfl, z, d_replay_, d_order_, d_free_, d_seen_⟩
    intro s σ H Ho e hI hw
    obtain ⟨replay_, order_, free_, seen_⟩ := s
    obtain ⟨g_replay_, g_order_, v_free_, g_seen_, y_hand_, rfl, z, d_replay_, d_order_, d_free_, d_seen_⟩ := hI
    replace d_choose_ := OLam.mo d_choose_ e
    replace t_record_ := TupAt.mo t_record_ e
    replace d_record__0_ := LV.mo d_record__0_ e
    replace d_record__1_ := LV.mo d_record__1_ e
    replace d_works_ := BC_Works.mo d_works_ e
    have es40 := es15.trans e
    refine y_ret ?_
    refine y_var rfl ?_
    replace z : Zs (g_order_ ++ (g_seen_ ++ (g_choose_ ++ amb))) _ _ := z.go [g_order_, g_replay_, g_seen_, g_choose_] amb [0, 2, 3]
    exact (exP_ok (run_ret hw)) _ _ _ _ _ es40 z d_order_ d_seen_
def sp_law_reel (K : PySem.W.Frag) (cl tb : Nat → Addr) : Sp := fun vs H Q E => ∃ (amb : Grp) (Ho : Hp) (v0 : V) (x0 : (List Int)), vs = [v0] ∧ Zs amb H Ho ∧ LV K amb Ho v0 x0 ∧ (m_law_reel x0).run fun r => ∀ v g H' Ho', Same Ho Ho' → Zs (g ++ amb) H' Ho' → OH K Ho' v r g → Q v H'
abbrev s_law_reel : Stmt := topS 31
theorem sc_law_reel : FnScope ["script", "stir", "cell", "great"] ["script"] (defScope s_law_reel) := ⟨rfl, rfl, rfl, by decide +kernel, rfl, by decide +kernel, by decide +kernel⟩
theorem ok_law_reel {f : Addr} {fd : FuncData} (F : Fun K "_law_reel" "_law_reel" s_law_reel f fd) :
    FnOk P w K mg base CX0 1 f fd ["script"] (sp_law_reel K cl tb) := by
  refine F.ok sc_law_reel (fun vs H Q E h => ?_) (fun cdv A outer s H vs Q E hr h => ?_)
  · obtain ⟨amb, Ho, v_script_, script_, rfl, _⟩ := h
    rfl
  · obtain ⟨amb, Ho, v_script_, script_, rfl, z, d_script_, hw⟩ := h
    refine ⟨_, pss_cons (ps_set (i := 1) sc_law_reel.nd rfl (Or.inl rfl) (pe_op op_pow (pe_int) (pe_int))) (pss_cons (ps_for PassesOwn.never rfl (zpi_list (K := K) rfl (pe_slice (zsl_list (K := K) rfl) (pv 0) po_none (po_some (pe_int)))) (pg_name (i := 2) sc_law_reel.nd rfl (Or.inl rfl)) (pss_cons (ps_set (i := 1) sc_law_reel.nd rfl (Or.inl rfl) (pe_op op_mod (pe_op op_add (pe_op op_add (pe_op op_mulW (pv 1) (pv 1)) (pe_op op_mod (pv 2) (pe_int))) (pe_int)) (pe_op op_sub (pe_op op_mulW (pe_op op_pow (pe_int) (pe_int)) (pe_op op_pow (pe_int) (pe_int))) (pe_int)))) (pss_nil))) (pss_cons (ps_setLc (i := 3) (own := [("cell", 2)]) rfl sc_law_reel.nd rfl rfl (sw_true rfl rfl rfl (by decide +kernel)) (zpi_list (K := K) rfl (pe_slice (zsl_list (K := K) rfl) (pv 0) po_none (po_some (pe_int)))) (blkOk_by (N := ["script", "stir", "cell", "great"]) (sc := defScope s_law_reel) (by decide +kernel)) (fun _ _ _ _ _ => pg_name (i := 2) sc_law_reel.nd rfl (Or.inl rfl)) (fun _ _ _ _ _ => pts_one (pt_cmpR (op_ge) (pv 2) (pe_op op_pow (pe_int) (pe_int)) (nomark _))) (fun _ _ _ _ _ => pe_op op_sub (pv 2) (pe_op op_pow (pe_int) (pe_int)))) (pss_cons (ps_ret (pe_lst (pa_cons (pv 3) (pa_cons (pe_op (zop_catS (K := K) rfl) (pe_lc (own := [("cell", 2)]) rfl sc_law_reel.nd (zpi_list (K := K) rfl (pe_slice (zsl_list (K := K) rfl) (pv 0) po_none (po_some (pe_int)))) (blkOk_by (N := ["script", "stir", "cell", "great"]) (sc := defScope s_law_reel) (by decide +kernel)) (fun _ _ _ _ _ => pg_name (i := 2) sc_law_reel.nd rfl (Or.inl rfl)) (fun _ _ _ _ _ => pts_nil) (fun _ _ _ _ _ => pe_op op_mod (pv 2) (pe_int))) (pe_lst (pa_cons (pe_int) (pa_nil)))) (pa_cons (pe_int) (pa_cons (pv 1) (pa_nil))))))) (pss_nil)))), ?_⟩
    refine l_asg (fun v => [_, some v, _, _]) (fun _ => rfl) ?_
    refine y_op ?_
    refine y_c ?_
    refine y_c ?_
    refine y_ig hw.1 ?_
    replace hw := (run_gd hw).2
    refine l_i hw (fun stir_ hw => ?_)
    refine y_for ?_
    refine k_iList ?_
    refine y_sl ?_
    refine y_var rfl ?_
    refine y_noPart ?_
    refine y_part ?_
    refine y_c ?_
    refine ⟨_, rfl, ?_⟩
    refine y_slL (LV.sub d_script_ mgE) z (fun H p1 ws2 z d3 => ?_)
    replace z : Zs ([(p1, HO.lst ws2)] ++ amb) H Ho := z
    have o4 := OL.mk (p := p1) d3
    refine k_srcL (r0 := [(p1, HO.lst ws2)]) (OL.lv o4 mgE) mg0 z (fun J T => ?_)
    refine y_forL T hw (fun (s : Int) (σ : L2.St) (H Ho : Hp) => ∃ (y_cell_ : Option V), σ = [some v_script_, some (V.int s), y_cell_, none] ∧ Zs ([(p1, HO.lst ws2)] ++ amb) H Ho) ⟨_, rfl, z⟩ ?_ ?_ ?_ ?_
    · intro s σ H Ho hI
      obtain ⟨y_cell_, rfl, z⟩ := hI
      exact ⟨_, z, mg0⟩
    · intro s σ H Ho H2 Ho2 hI e t
      obtain ⟨y_cell_, rfl, z⟩ := hI
      exact ⟨_, rfl, t _ z⟩
    · intro cell_ v_cell_ s σ H Ho N e hI d_cell_ hw
      obtain ⟨stir_, rfl⟩ : ∃ q, q = s := ⟨_, rfl⟩
      obtain ⟨y_cell_, rfl, z⟩ := hI
      replace d_script_ := LV.mo d_script_ e
      have es5 := (Same.refl _).trans e
      obtain rfl := d_int d_cell_
      refine y_gname (σ' := [some v_script_, some (V.int stir_), some (V.int cell_), none]) rfl ?_
      refine l_asg (fun v => [_, some v, _, _]) (fun _ => rfl) ?_
      refine y_op ?_
      refine y_op ?_
      refine y_op ?_
      refine y_op ?_
      refine y_var rfl ?_
      refine y_var rfl ?_
      refine y_ig hw.1 ?_
      replace hw := (run_gd hw).2
      refine y_op ?_
      refine y_var rfl ?_
      refine y_c ?_
      refine y_ig (by decide) ?_
      refine y_i0 ?_
      refine y_c ?_
      refine y_i0 ?_
      refine y_op ?_
      refine y_op ?_
      refine y_op ?_
      refine y_c ?_
      refine y_c ?_
      refine y_ig hw.1 ?_
      replace hw := (run_gd hw).2
      refine y_op ?_
      refine y_c ?_
      refine y_c ?_
      refine y_ig hw.1 ?_
      replace hw := (run_gd hw).2
      refine y_ig hw.1 ?_
      replace hw := (run_gd hw).2
      refine y_c ?_
      refine y_i0 ?_
      refine y_ig hw.1 ?_
      replace hw := (run_gd hw).2
      refine l_i hw (fun stir_ hw => ?_)
      exact (run_ret hw) _ _ _ (Same.refl _) ⟨_, rfl, z⟩
    intro s σ H Ho e hI hw
    obtain ⟨stir_, rfl⟩ : ∃ q, q = s := ⟨_, rfl⟩
    obtain ⟨y_cell_, rfl, z⟩ := hI
    replace d_script_ := LV.mo d_script_ e
    have es6 := (Same.refl _).trans e
    replace z : Zs amb _ _ := z.go [[(p1, HO.lst ws2)]] amb []
    refine l_asg (fun v => [_, _, _, some v]) (fun _ => rfl) ?_
    refine y_lc ?_
    refine k_iList ?_
    refine y_sl ?_
    refine y_var rfl ?_
    refine y_noPart ?_
    refine y_part ?_
    refine y_c ?_
    refine ⟨_, rfl, ?_⟩
    refine y_slL (LV.sub d_script_ mgE) z (fun H p7 ws8 z d9 => ?_)
    replace z : Zs ([(p7, HO.lst ws8)] ++ amb) H Ho := z
    have o10 := OL.mk (p := p7) d9
    refine k_srcL (r0 := [(p7, HO.lst ws8)]) (OL.lv o10 mgE) mg0 z (fun J T => ?_)
    refine y_lcG z mg0 T hw (fun r11 cell_ v_cell_ H Ho N N' e z d_cell_ hw => ?_) (fun t16 H Ho e hw p13 ws14 z d15 => ?_)
    · replace z : Zs ([r11] ++ ([(p7, HO.lst ws8)] ++ amb)) H Ho := z
      replace d_script_ := LV.mo d_script_ e
      have es12 := es6.trans e
      obtain rfl := d_int d_cell_
      refine y_gname (σ' := [some v_script_, some (V.int stir_), some (V.int cell_), none]) rfl ?_
      refine ⟨rfl, ?_⟩
      refine y_test ?_
      refine y_op ?_
      refine y_var rfl ?_
      refine y_op ?_
      refine y_c ?_
      refine y_c ?_
      refine y_ig hw.1 ?_
      replace hw := (run_gd hw).2
      refine y_i0 ?_
      refine ⟨_, rfl, ?_⟩
      refine w_two (fun hb => ?_) (fun hb => ?_)
      · replace hw := run_itT (run_ret hw) hb
        refine y_op ?_
        refine y_var rfl ?_
        refine y_op ?_
        refine y_c ?_
        refine y_c ?_
        refine y_ig hw.1 ?_
        replace hw := (run_gd hw).2
        refine y_i0 ?_
        exact (run_ret hw) _ _ _ (Same.refl _) z (Dq.int _)
      · exact run_itF (run_ret hw) hb _ _ (Same.refl _) z
    replace d_script_ := LV.mo d_script_ e
    have es17 := es6.trans e
    replace z : Zs ([(p13, HO.lst ws14)] ++ ([(p7, HO.lst ws8)] ++ amb)) H Ho := z
    have o18 := OL.mk (p := p13) d15
    refine l_fr o18 z (fun Ho e z d19 => ?_)
    replace d_script_ := LV.mo d_script_ e
    have es20 := es17.trans e
    refine l_d (K := K) (Ho := Ho) hw d19 (fun great_ v_great_ d_great_ hw => ?_)
    replace z : Zs amb _ _ := z.go [[(p7, HO.lst ws8)]] amb []
    refine y_ret ?_
    refine k_lst ?_
    refine y_cons ?_
    refine y_var rfl ?_
    refine y_cons ?_
    refine y_op ?_
    refine y_lc ?_
    refine k_iList ?_
    refine y_sl ?_
    refine y_var rfl ?_
    refine y_noPart ?_
    refine y_part ?_
    refine y_c ?_
    refine ⟨_, rfl, ?_⟩
    refine y_slL (LV.sub d_script_ mgE) z (fun H p21 ws22 z d23 => ?_)
    replace z : Zs ([(p21, HO.lst ws22)] ++ amb) H Ho := z
    have o24 := OL.mk (p := p21) d23
    refine k_srcL (r0 := [(p21, HO.lst ws22)]) (OL.lv o24 mgE) mg0 z (fun J T => ?_)
    refine y_lcG z mg0 T hw (fun r25 cell_ v_cell_ H Ho N N' e z d_cell_ hw => ?_) (fun t30 H Ho e hw p27 ws28 z d29 => ?_)
    · replace z : Zs ([r25] ++ ([(p21, HO.lst ws22)] ++ amb)) H Ho := z
      replace d_great_ := D.mo d_great_ e
      replace d_script_ := LV.mo d_script_ e
      have es26 := es20.trans e
      obtain rfl := d_int d_cell_
      refine y_gname (σ' := [some v_script_, some (V.int stir_), some (V.int cell_), some v_great_]) rfl ?_
      refine ⟨rfl, ?_⟩
      refine y_yes (w_t ?_)
      replace hw := run_itT (run_bret hw) rfl
      refine y_op ?_
      refine y_var rfl ?_
      refine y_c ?_
      refine y_ig (by decide) ?_
      exact (run_ret hw) _ _ _ (Same.refl _) z (Dq.int _)
    replace d_great_ := D.mo d_great_ e
    replace d_script_ := LV.mo d_script_ e
    have es31 := es20.trans e
    replace z : Zs ([(p27, HO.lst ws28)] ++ ([(p21, HO.lst ws22)] ++ amb)) H Ho := z
    have o32 := OL.mk (p := p27) d29
    refine k_lst ?_
    refine y_cons ?_
    refine y_c ?_
    refine y_nil ?_
    refine k_lstk (K := K) (xs := ([(41 : Int)] : (List Int))) z (DqAll.cons (Dq.int _) DqAll.nil) (by show 1 ≤ sizeLine; decide) (fun H p33 ws34 z d35 => ?_)
    replace z : Zs ([(p33, HO.lst ws34)] ++ ([(p27, HO.lst ws28)] ++ ([(p21, HO.lst ws22)] ++ amb))) H Ho := z
    have o36 := OL.mk (p := p33) d35
    refine y_cat (OL.lv o32 (mgS mg0)) (OL.lv o36 mg0) z hw.1 (fun H p37 ws38 z d39 => ?_)
    replace hw := (run_gd hw).2
    replace z : Zs ([(p37, HO.lst ws38)] ++ ([(p33, HO.lst ws34)] ++ ([(p27, HO.lst ws28)] ++ ([(p21, HO.lst ws22)] ++ amb)))) H Ho := z
    have o40 := OL.mk (p := p37) d39
    refine y_cons ?_
    refine y_c ?_
    refine y_cons ?_
    refine y_var rfl ?_
    refine y_nil ?_
    refine l_fr o40 z (fun Ho e z d41 => ?_)
    replace d_great_ := D.mo d_great_ e
    replace d_script_ := LV.mo d_script_ e
    have es42 := es31.trans e
    refine k_hlst (K := K) (x := (⟨great_, (t30 ++ ([(41 : Int)] : (List Int))), (0 : Int), stir_⟩ : (H4 (List Int) (List Int) Int Int))) z (DqAll.cons d_great_ (DqAll.cons d41 (DqAll.cons (Dq.int _) (DqAll.cons (Dq.int _) DqAll.nil)))) (by show 4 ≤ sizeLine; decide) (fun H p45 g43 z o44 => ?_)
    replace z : Zs (g43 ++ amb) _ _ := z.go [g43, [(p33, HO.lst ws34)], [(p27, HO.lst ws28)], [(p21, HO.lst ws22)]] amb [0]
    exact (run_ret hw) _ _ _ _ es42 z o44
def sp_law_draw (K : PySem.W.Frag) (cl tb : Nat → Addr) : Sp := fun vs H Q E => ∃ (amb : Grp) (Ho : Hp) (v0 : V) (x0 : (H4 (List Int) (List Int) Int Int)) (g0 : Grp) (v1 : V) (x1 : Int), vs = [v0, v1] ∧ Zs (g0 ++ amb) H Ho ∧ OH K Ho v0 x0 g0 ∧ Z.D K Ho v1 x1 ∧ (m_law_draw x0 x1).run fun r => ∀ v h0 H' Ho', Same Ho Ho' → Zs (h0 ++ amb) H' Ho' → Z.D K Ho' v r.1 → OH K Ho' v0 r.2 h0 → Q v H'
abbrev s_law_draw : Stmt := topS 32
theorem sc_law_draw : FnScope ["reel", "many", "rest", "told", "stir"] ["reel", "many"] (defScope s_law_draw) := ⟨rfl, rfl, rfl, by decide +kernel, rfl, by decide +kernel, by decide +kernel⟩
theorem ok_law_draw {f : Addr} {fd : FuncData} (F : Fun K "_law_draw" "_law_draw" s_law_draw f fd) (m_int : mg "int" = none) (m_len : mg "len" = none) :
    FnOk P w K mg base CX0 1 f fd ["reel", "many"] (sp_law_draw K cl tb) := by
  refine F.ok sc_law_draw (fun vs H Q E h => ?_) (fun cdv A outer s H vs Q E hr h => ?_)
  · obtain ⟨amb, Ho, v_reel_, reel_, g_reel_, v_many_, many_, rfl, _⟩ := h
    rfl
  · obtain ⟨amb, Ho, v_reel_, reel_, g_reel_, v_many_, many_, rfl, z, d_reel_, d_many_, hw⟩ := h
    refine ⟨_, pss_cons (ps_if (pt_cmpR (zop_neD (K := K) rfl hr.units) (pe_ix (zix_list (K := K) rfl) (pv 0) (pe_int) (fun _ _ => rfl)) (pe_lst (pa_nil)) (nomark _)) (pss_cons (ps_set (i := 2) sc_law_draw.nd rfl (Or.inl rfl) (pe_ix (zix_list (K := K) rfl) (pe_ix (zix_list (K := K) rfl) (pv 0) (pe_int) (fun _ _ => rfl)) (pe_int) (fun _ _ => rfl))) (pss_cons (ps_asg (pe_op (zop_catS (K := K) rfl) (pe_op op_rep (pe_lst (pa_cons (pe_op op_fdivW (pv 2) (pv 1)) (pa_nil))) (pe_callTy call_int1 (by rfl) m_int (by decide +kernel) (pa_cons (pe_cmpR (op_ge) (pv 2) (pv 1) (nomark _)) (pa_nil)))) (pe_slice (zsl_list (K := K) rfl) (pe_ix (zix_list (K := K) rfl) (pv 0) (pe_int) (fun _ _ => rfl)) (po_some (pe_int)) po_none)) (pg_sub (pv 0) (pe_int) set_list)) (pss_cons (ps_ret (pe_op op_mod (pv 2) (pv 1))) (pss_nil)))) (pss_nil)) (pss_cons (ps_asg (pe_op op_add (pe_ix (zix_list (K := K) rfl) (pv 0) (pe_int) (fun _ _ => rfl)) (pe_int)) (pg_sub (pv 0) (pe_int) set_list)) (pss_cons (ps_set (i := 3) sc_law_draw.nd rfl (Or.inl rfl) (pe_ix (zix_list (K := K) rfl) (pe_ix (zix_list (K := K) rfl) (pv 0) (pe_int) (fun _ _ => rfl)) (pe_op op_mod (pe_ix (zix_list (K := K) rfl) (pv 0) (pe_int) (fun _ _ => rfl)) (pe_callB (zlen (K := K) rfl) (by rfl) m_len (by decide +kernel) (pa_cons (pe_ix (zix_list (K := K) rfl) (pv 0) (pe_int) (fun _ _ => rfl)) (pa_nil)))) (fun _ _ => rfl))) (pss_cons (ps_set (i := 4) sc_law_draw.nd rfl (Or.inl rfl) (pe_op op_add (pe_op op_add (pe_op op_mulW (pe_ix (zix_list (K := K) rfl) (pv 0) (pe_int) (fun _ _ => rfl)) (pe_ix (zix_list (K := K) rfl) (pv 0) (pe_int) (fun _ _ => rfl))) (pe_op op_mulW (pe_op op_add (pv 3) (pe_int)) (pe_int))) (pe_op op_mulW (pe_ix (zix_list (K := K) rfl) (pv 0) (pe_int) (fun _ _ => rfl)) (pe_int)))) (pss_cons (ps_asg (pe_op op_mod (pv 4) (pe_op op_sub (pe_op op_mulW (pe_op op_pow (pe_int) (pe_int)) (pe_op op_pow (pe_int) (pe_int))) (pe_int))) (pg_sub (pv 0) (pe_int) set_list)) (pss_cons (ps_ret (pe_op op_mod (pe_op op_fdivW (pe_ix (zix_list (K := K) rfl) (pv 0) (pe_int) (fun _ _ => rfl)) (pe_op op_pow (pe_int) (pe_int))) (pv 1))) (pss_nil)))))), ?_⟩
    obtain rfl := d_int d_many_
    refine y_ifS ?_
    refine y_test ?_
    refine y_op ?_
    refine y_op ?_
    refine y_var rfl ?_
    refine y_c ?_
    refine h_ix (y := reel_.a) d_reel_ z rfl (fun w d1 => ?_)
    refine k_lst ?_
    refine y_nil ?_
    refine k_lstk (K := K) (xs := ([] : (List Int))) z DqAll.nil (by show 0 ≤ sizeLine; decide) (fun H p2 ws3 z d4 => ?_)
    replace z : Zs ([(p2, HO.lst ws3)] ++ (g_reel_ ++ amb)) H Ho := z
    have o5 := OL.mk (p := p2) d4
    refine y_neD (D.mo d1 z.le) (LV.dp (OL.lv o5 mg0) z) hw.1 ?_
    replace hw := (run_gd hw).2
    refine ⟨_, rfl, ?_⟩
    refine y_cases hw (fun hb hw => ?_) (fun hb hw => ?_)
    · replace z : Zs (g_reel_ ++ amb) _ _ := z.go [[(p2, HO.lst ws3)], g_reel_] amb [1]
      refine l_asg (fun v => [_, _, some v, _, _]) (fun _ => rfl) ?_
      refine y_op ?_
      refine y_op ?_
      refine y_var rfl ?_
      refine y_c ?_
      refine h_ix (y := reel_.a) d_reel_ z rfl (fun w d6 => ?_)
      refine y_c ?_
      refine y_ixL (LV.of d6) z hw (fun t7 w d8 hw => ?_)
      first | obtain rfl := d_int d8 | cases d_int d8
      refine l_i hw (fun rest_ hw => ?_)
      refine y_asgG ?_
      refine y_op ?_
      refine y_op ?_
      refine k_lst ?_
      refine y_cons ?_
      refine y_op ?_
      refine y_var rfl ?_
      refine y_var rfl ?_
      refine y_ig hw.1 ?_
      replace hw := (run_gd hw).2
      refine y_nil ?_
      refine k_lstk (K := K) (xs := ([(rest_ / many_)] : (List Int))) z (DqAll.cons (Dq.int _) DqAll.nil) (by show 1 ≤ sizeLine; decide) (fun H p9 ws10 z d11 => ?_)
      replace z : Zs ([(p9, HO.lst ws10)] ++ (g_reel_ ++ amb)) H Ho := z
      have o12 := OL.mk (p := p9) d11
      refine y_cb ?_
      refine y_cons ?_
      refine y_op ?_
      refine y_var rfl ?_
      refine y_var rfl ?_
      refine y_i0 ?_
      refine y_nil ?_
      refine Or.inr ⟨_, rfl, ?_⟩
      refine y_rep z d11 hw.1 (fun H p13 ws14 z d15 => ?_)
      replace hw := (run_gd hw).2
      replace z : Zs ([(p13, HO.lst ws14)] ++ (g_reel_ ++ amb)) H Ho := z
      have o16 := OL.mk (p := p13) d15
      refine y_sl ?_
      refine y_op ?_
      refine y_var rfl ?_
      refine y_c ?_
      replace z : Zs (g_reel_ ++ ([(p13, HO.lst ws14)] ++ amb)) _ _ := z.go [[(p13, HO.lst ws14)], g_reel_] amb [1, 0]
      refine h_ix (y := reel_.a) d_reel_ z rfl (fun w d17 => ?_)
      refine y_part ?_
      refine y_c ?_
      refine ⟨_, rfl, ?_⟩
      refine y_noPart ?_
      refine y_slL (LV.of d17) z (fun H p18 ws19 z d20 => ?_)
      replace z : Zs ([(p18, HO.lst ws19)] ++ (g_reel_ ++ ([(p13, HO.lst ws14)] ++ amb))) H Ho := z
      have o21 := OL.mk (p := p18) d20
      refine y_cat (OL.lv o16 (mgS (mgS mg0))) (OL.lv o21 mg0) z hw.1 (fun H p22 ws23 z d24 => ?_)
      replace hw := (run_gd hw).2
      replace z : Zs ([(p22, HO.lst ws23)] ++ ([(p18, HO.lst ws19)] ++ (g_reel_ ++ ([(p13, HO.lst ws14)] ++ amb)))) H Ho := z
      have o25 := OL.mk (p := p22) d24
      refine l_fr o25 z (fun Ho e z d26 => ?_)
      replace d_reel_ := OH.mo d_reel_ e
      have es27 := (Same.refl _).trans e
      refine y_gsub ?_
      refine y_var rfl ?_
      refine y_c ?_
      replace z : Zs (g_reel_ ++ ([(p18, HO.lst ws19)] ++ ([(p13, HO.lst ws14)] ++ amb))) _ _ := z.go [[(p18, HO.lst ws19)], g_reel_, [(p13, HO.lst ws14)]] amb [1, 0, 2]
      refine h_st (y := ({ reel_ with a := ((repL ([(rest_ / many_)] : (List Int)) (if (decide (rest_ ≥ many_)) then (1 : Int) else 0)) ++ (Z.cut reel_.a (some (1 : Int)) none)) } : (H4 (List Int) (List Int) Int Int))) z d_reel_ d26 rfl rfl (fun g_reel_ H z d_reel_ => ?_)
      refine h_nm hw d_reel_ (fun reel_ d_reel_ hw => ?_)
      replace z : Zs (g_reel_ ++ amb) _ _ := z.go [g_reel_, [(p18, HO.lst ws19)], [(p13, HO.lst ws14)]] amb [0]
      refine y_ret ?_
      refine y_op ?_
      refine y_var rfl ?_
      refine y_var rfl ?_
      refine y_ig hw.1 ?_
      replace hw := (run_gd hw).2
      exact (run_ret hw) _ _ _ _ es27 z (Dq.int _) d_reel_
    · refine y_nxS ?_
      replace z : Zs (g_reel_ ++ amb) _ _ := z.go [[(p2, HO.lst ws3)], g_reel_] amb [1]
      refine y_asgG ?_
      refine y_op ?_
      refine y_op ?_
      refine y_var rfl ?_
      refine y_c ?_
      refine h_ix (y := reel_.c) d_reel_ z rfl (fun w d28 => ?_)
      first | obtain rfl := d_int d28 | cases d_int d28
      refine y_c ?_
      refine y_i0 ?_
      refine y_gsub ?_
      refine y_var rfl ?_
      refine y_c ?_
      refine h_st (y := ({ reel_ with c := (reel_.c + (1 : Int)) } : (H4 (List Int) (List Int) Int Int))) z d_reel_ (Dq.int _) rfl rfl (fun g_reel_ H z d_reel_ => ?_)
      refine h_nm hw d_reel_ (fun reel_ d_reel_ hw => ?_)
      refine l_asg (fun v => [_, _, _, some v, _]) (fun _ => rfl) ?_
      refine y_op ?_
      refine y_op ?_
      refine y_var rfl ?_
      refine y_c ?_
      refine h_ix (y := reel_.b) d_reel_ z rfl (fun w d29 => ?_)
      refine y_op ?_
      refine y_op ?_
      refine y_var rfl ?_
      refine y_c ?_
      refine h_ix (y := reel_.c) d_reel_ z rfl (fun w d30 => ?_)
      first | obtain rfl := d_int d30 | cases d_int d30
      refine y_cb ?_
      refine y_cons ?_
      refine y_op ?_
      refine y_var rfl ?_
      refine y_c ?_
      refine h_ix (y := reel_.b) d_reel_ z rfl (fun w d31 => ?_)
      refine y_nil ?_
      refine y_len (LV.of d31) z ?_
      refine y_ig hw.1 ?_
      replace hw := (run_gd hw).2
      refine y_ixL (LV.of d29) z hw (fun t32 w d33 hw => ?_)
      first | obtain rfl := d_int d33 | cases d_int d33
      refine l_i hw (fun told_ hw => ?_)
      refine l_asg (fun v => [_, _, _, _, some v]) (fun _ => rfl) ?_
      refine y_op ?_
      refine y_op ?_
      refine y_op ?_
      refine y_op ?_
      refine y_var rfl ?_
      refine y_c ?_
      refine h_ix (y := reel_.d) d_reel_ z rfl (fun w d34 => ?_)
      first | obtain rfl := d_int d34 | cases d_int d34
      refine y_op ?_
      refine y_var rfl ?_
      refine y_c ?_
      refine h_ix (y := reel_.d) d_reel_ z rfl (fun w d35 => ?_)
      first | obtain rfl := d_int d35 | cases d_int d35
      refine y_ig hw.1 ?_
      replace hw := (run_gd hw).2
      refine y_op ?_
      refine y_op ?_
      refine y_var rfl ?_
      refine y_c ?_
      refine y_i0 ?_
      refine y_c ?_
      refine y_ig hw.1 ?_
      replace hw := (run_gd hw).2
      refine y_i0 ?_
      refine y_op ?_
      refine y_op ?_
      refine y_var rfl ?_
      refine y_c ?_
      refine h_ix (y := reel_.c) d_reel_ z rfl (fun w d36 => ?_)
      first | obtain rfl := d_int d36 | cases d_int d36
      refine y_c ?_
      refine y_ig hw.1 ?_
      replace hw := (run_gd hw).2
      refine y_i0 ?_
      refine l_i hw (fun stir_ hw => ?_)
      refine y_asgG ?_
      refine y_op ?_
      refine y_var rfl ?_
      refine y_op ?_
      refine y_op ?_
      refine y_op ?_
      refine y_c ?_
      refine y_c ?_
      refine y_ig hw.1 ?_
      replace hw := (run_gd hw).2
      refine y_op ?_
      refine y_c ?_
      refine y_c ?_
      refine y_ig hw.1 ?_
      replace hw := (run_gd hw).2
      refine y_ig hw.1 ?_
      replace hw := (run_gd hw).2
      refine y_c ?_
      refine y_i0 ?_
      refine y_ig hw.1 ?_
      replace hw := (run_gd hw).2
      refine y_gsub ?_
      refine y_var rfl ?_
      refine y_c ?_
      refine h_st (y := ({ reel_ with d := (stir_ % ((((2 : Int) ^ ((64 : Int)).toNat) * ((2 : Int) ^ ((63 : Int)).toNat)) - (1 : Int))) } : (H4 (List Int) (List Int) Int Int))) z d_reel_ (Dq.int _) rfl rfl (fun g_reel_ H z d_reel_ => ?_)
      refine h_nm hw d_reel_ (fun reel_ d_reel_ hw => ?_)
      refine y_ret ?_
      refine y_op ?_
      refine y_op ?_
      refine y_op ?_
      refine y_var rfl ?_
      refine y_c ?_
      refine h_ix (y := reel_.d) d_reel_ z rfl (fun w d37 => ?_)
      first | obtain rfl := d_int d37 | cases d_int d37
      refine y_op ?_
      refine y_c ?_
      refine y_c ?_
      refine y_ig hw.1 ?_
      replace hw := (run_gd hw).2
      refine y_ig hw.1 ?_
      replace hw := (run_gd hw).2
      refine y_var rfl ?_
      refine y_ig hw.1 ?_
      replace hw := (run_gd hw).2
      exact (run_ret hw) _ _ _ _ (Same.refl _) z (Dq.int _) d_reel_
def sp_law_alike_R (n : Nat) (K : PySem.W.Frag) (cl tb : Nat → Addr) : Sp := fun vs H Q E => ∃ (amb : Grp) (Ho : Hp) (v0 : V) (x0 : PyData) (v1 : V) (x1 : PyData), vs = [v0, v1] ∧ Zs amb H Ho ∧ Z.D K Ho v0 x0 ∧ Z.D K Ho v1 x1 ∧ (m_law_alike_R n x0 x1).run fun r => ∀ v H' Ho', Same Ho Ho' → Zs amb H' Ho' → Z.D K Ho' v r → Q v H'
abbrev s_law_alike : Stmt := topS 33
theorem sc_law_alike : FnScope ["found", "due", "mine", "other"] ["found", "due"] (defScope s_law_alike) := ⟨rfl, rfl, rfl, by decide +kernel, rfl, by decide +kernel, by decide +kernel⟩
theorem ok_law_alike_S {f : Addr} {fd : FuncData} (F : Fun K "_law_alike" "_law_alike" s_law_alike f fd) {n : Nat} (c_law_alike : Cal P w K mg base CX0 "_law_alike" ["found", "due"] (1 + n) (sp_law_alike_R n K cl tb) f fd) (m_isinstance : mg "isinstance" = none) (m_tuple : mg "tuple" = none) (m_list : mg "list" = none) (m_len : mg "len" = none) (m_zip : mg "zip" = none) (m_all : mg "all" = none) (m_bool : mg "bool" = none) (m_str : mg "str" = none) (m_int : mg "int" = none) :
    FnOk P w K mg base CX0 (1 + n + 1) f fd ["found", "due"] (sp_law_alike_R (n + 1) K cl tb) := by
  refine F.ok sc_law_alike (fun vs H Q E h => ?_) (fun cdv A outer s H vs Q E hr h => ?_)
  · obtain ⟨amb, Ho, v_found_, found_, v_due_, due_, rfl, _⟩ := h
    rfl
  · obtain ⟨amb, Ho, v_found_, found_, v_due_, due_, rfl, z, d_found_, d_due_, hw⟩ := h
    refine ⟨_, pss_cons (ps_if (PW.pt (pw_or (pt_val (pe_callB (zisi (K := K) rfl) (by rfl) m_isinstance (by decide +kernel) (pa_cons (pv 1) (pa_cons (pe_bltn (v := .ty "tuple") (by rfl) m_tuple (by decide +kernel) rfl) pa_nil)))) (pw_or1 (pt_val (pe_callB (zisi (K := K) rfl) (by rfl) m_isinstance (by decide +kernel) (pa_cons (pv 1) (pa_cons (pe_bltn (v := .ty "list") (by rfl) m_list (by decide +kernel) rfl) pa_nil))))))) (pss_cons (ps_if (PW.pt (pw_or (pt_cmpR (op_ne) (pe_callB (zisi (K := K) rfl) (by rfl) m_isinstance (by decide +kernel) (pa_cons (pv 0) (pa_cons (pe_bltn (v := .ty "tuple") (by rfl) m_tuple (by decide +kernel) rfl) pa_nil))) (pe_callB (zisi (K := K) rfl) (by rfl) m_isinstance (by decide +kernel) (pa_cons (pv 1) (pa_cons (pe_bltn (v := .ty "tuple") (by rfl) m_tuple (by decide +kernel) rfl) pa_nil))) (nomark _)) (pw_or1 (pt_cmpR (op_ne) (pe_callB (zisi (K := K) rfl) (by rfl) m_isinstance (by decide +kernel) (pa_cons (pv 0) (pa_cons (pe_bltn (v := .ty "list") (by rfl) m_list (by decide +kernel) rfl) pa_nil))) (pe_callB (zisi (K := K) rfl) (by rfl) m_isinstance (by decide +kernel) (pa_cons (pv 1) (pa_cons (pe_bltn (v := .ty "list") (by rfl) m_list (by decide +kernel) rfl) pa_nil))) (nomark _))))) (pss_cons (ps_ret (pe_bl)) (pss_nil)) (pss_nil)) (pss_cons (ps_if (pt_cmpR (op_ne) (pe_callB (zlen (K := K) rfl) (by rfl) m_len (by decide +kernel) (pa_cons (pv 0) (pa_nil))) (pe_callB (zlen (K := K) rfl) (by rfl) m_len (by decide +kernel) (pa_cons (pv 1) (pa_nil))) (nomark _)) (pss_cons (ps_ret (pe_bl)) (pss_nil)) (pss_nil)) (pss_cons (ps_ret (pe_callB (zall (K := K) rfl rfl) (by rfl) m_all (by decide +kernel) (pa_cons (pe_lc (own := [("mine", 2), ("other", 3)]) rfl sc_law_alike.nd (zpi_zipA (K := K) rfl (by rfl) m_zip (pa_cons (pv 0) (pa_cons (pv 1) (pa_nil)))) (blkOk_by (N := ["found", "due", "mine", "other"]) (sc := defScope s_law_alike) (by decide +kernel)) (fun _ _ _ _ _ => zpg_tup (K := K) (n := 2) rfl rfl (pgs_cons (pg_name (i := 2) sc_law_alike.nd rfl (Or.inl rfl)) (pgs_cons (pg_name (i := 3) sc_law_alike.nd rfl (Or.inl rfl)) (pgs_nil)))) (fun _ _ _ _ _ => pts_nil) (fun _ _ _ _ _ => pe_call c_law_alike.ok (hr.mono (by omega)) (by rfl) c_law_alike.g c_law_alike.kp c_law_alike.b .nil pass0 (pa_cons (pv 2) (pa_cons (pv 3) (pa_nil))))) (pa_nil)))) (pss_nil)))) (pss_nil)) (pss_cons (ps_if (pt_cmpR (op_isN) (pv 1) (pe_non) (nomark _)) (pss_cons (ps_ret (pe_cmpR (op_isN) (pv 0) (pe_non) (nomark _))) (pss_nil)) (pss_nil)) (pss_cons (ps_if (PW.pt (pw_or (pt_val (pe_callB (zisi (K := K) rfl) (by rfl) m_isinstance (by decide +kernel) (pa_cons (pv 1) (pa_cons (pe_bltn (v := .ty "bool") (by rfl) m_bool (by decide +kernel) rfl) pa_nil)))) (pw_or1 (pt_val (pe_callB (zisi (K := K) rfl) (by rfl) m_isinstance (by decide +kernel) (pa_cons (pv 1) (pa_cons (pe_bltn (v := .ty "str") (by rfl) m_str (by decide +kernel) rfl) pa_nil))))))) (pss_cons (ps_ret (pe_and (pe_cmpR (op_eq) (pe_callB (zisi (K := K) rfl) (by rfl) m_isinstance (by decide +kernel) (pa_cons (pv 0) (pa_cons (pe_bltn (v := .ty "bool") (by rfl) m_bool (by decide +kernel) rfl) pa_nil))) (pe_callB (zisi (K := K) rfl) (by rfl) m_isinstance (by decide +kernel) (pa_cons (pv 1) (pa_cons (pe_bltn (v := .ty "bool") (by rfl) m_bool (by decide +kernel) rfl) pa_nil))) (nomark _)) (pe_one (pe_cmpR (zop_eqD (K := K) rfl hr.units) (pv 0) (pv 1) (nomark _))))) (pss_nil)) (pss_nil)) (pss_cons (ps_ret (pe_and (pe_callB (zisi (K := K) rfl) (by rfl) m_isinstance (by decide +kernel) (pa_cons (pv 0) (pa_cons (pe_bltn (v := .ty "int") (by rfl) m_int (by decide +kernel) rfl) pa_nil))) (pe_and (pe_not (pe_callB (zisi (K := K) rfl) (by rfl) m_isinstance (by decide +kernel) (pa_cons (pv 0) (pa_cons (pe_bltn (v := .ty "bool") (by rfl) m_bool (by decide +kernel) rfl) pa_nil)))) (pe_one (pe_cmpR (zop_eqD (K := K) rfl hr.units) (pv 0) (pv 1) (nomark _)))))) (pss_nil)))), ?_⟩
    refine y_ifS ?_
    refine y_or ?_
    refine y_tB ?_
    refine y_cb ?_
    refine y_cons ?_
    refine y_var rfl ?_
    refine y_cons (y_c (y_nil ?_))
    refine y_isiP (D.mo d_due_ z.le) hw.1 (by decide +kernel) ?_
    replace hw := (run_gd hw).2
    refine ⟨_, rfl, ?_⟩
    refine w_orJ hw (fun (s : Bool) (v : Bool) (H2 : Hp) => ∃ (Ho2 : Hp), Same Ho Ho2 ∧ Zs amb H2 Ho2 ∧ v = s) (fun hb hw => ?_) (fun hb hw => ?_) ?_
    · exact (run_ret hw) _ _ ⟨_, (Same.refl _), z, rfl⟩
    · refine y_tB ?_
      refine y_cb ?_
      refine y_cons ?_
      refine y_var rfl ?_
      refine y_cons (y_c (y_nil ?_))
      refine y_isiP (D.mo d_due_ z.le) hw.1 (by decide +kernel) ?_
      replace hw := (run_gd hw).2
      refine ⟨_, rfl, ?_⟩
      exact (run_ret hw) _ _ ⟨_, (Same.refl _), z, rfl⟩
    rintro t1 v H ⟨Ho, e, z, rfl⟩ hw
    replace d_due_ := D.mo d_due_ e
    replace d_found_ := D.mo d_found_ e
    have es4 := (Same.refl _).trans e
    refine y_cases hw (fun hb hw => ?_) (fun hb hw => ?_)
    · refine y_ifS ?_
      refine y_or ?_
      refine y_test ?_
      refine y_op ?_
      refine y_cb ?_
      refine y_cons ?_
      refine y_var rfl ?_
      refine y_cons (y_c (y_nil ?_))
      refine y_isiP (D.mo d_found_ z.le) hw.1 (by decide +kernel) ?_
      replace hw := (run_gd hw).2
      refine y_cb ?_
      refine y_cons ?_
      refine y_var rfl ?_
      refine y_cons (y_c (y_nil ?_))
      refine y_isiP (D.mo d_due_ z.le) hw.1 (by decide +kernel) ?_
      replace hw := (run_gd hw).2
      refine y_neb ?_
      refine ⟨_, rfl, ?_⟩
      refine w_orJ hw (fun (s : Bool) (v : Bool) (H2 : Hp) => ∃ (Ho2 : Hp), Same Ho Ho2 ∧ Zs amb H2 Ho2 ∧ v = s) (fun hb hw => ?_) (fun hb hw => ?_) ?_
      · exact (run_ret hw) _ _ ⟨_, (Same.refl _), z, rfl⟩
      · refine y_test ?_
        refine y_op ?_
        refine y_cb ?_
        refine y_cons ?_
        refine y_var rfl ?_
        refine y_cons (y_c (y_nil ?_))
        refine y_isiP (D.mo d_found_ z.le) hw.1 (by decide +kernel) ?_
        replace hw := (run_gd hw).2
        refine y_cb ?_
        refine y_cons ?_
        refine y_var rfl ?_
        refine y_cons (y_c (y_nil ?_))
        refine y_isiP (D.mo d_due_ z.le) hw.1 (by decide +kernel) ?_
        replace hw := (run_gd hw).2
        refine y_neb ?_
        refine ⟨_, rfl, ?_⟩
        exact (run_ret hw) _ _ ⟨_, (Same.refl _), z, rfl⟩
      rintro t5 v H ⟨Ho, e, z, rfl⟩ hw
      replace d_due_ := D.mo d_due_ e
      replace d_found_ := D.mo d_found_ e
      have es8 := es4.trans e
      refine y_cases hw (fun hb hw => ?_) (fun hb hw => ?_)
      · refine y_ret ?_
        refine y_c ?_
        exact (run_ret hw) _ _ _ es8 z (Dq.bl _)
      · refine y_nxS ?_
        refine y_ifS ?_
        refine y_test ?_
        refine y_op ?_
        refine y_cb ?_
        refine y_cons ?_
        refine y_var rfl ?_
        refine y_nil ?_
        refine y_lenP d_found_ z hw (fun t9 hw => ?_)
        refine y_cb ?_
        refine y_cons ?_
        refine y_var rfl ?_
        refine y_nil ?_
        refine y_lenP d_due_ z hw (fun t10 hw => ?_)
        refine y_nei ?_
        refine ⟨_, rfl, ?_⟩
        refine y_cases hw (fun hb hw => ?_) (fun hb hw => ?_)
        · refine y_ret ?_
          refine y_c ?_
          exact (run_ret hw) _ _ _ es8 z (Dq.bl _)
        · refine y_nxS ?_
          refine y_ret ?_
          refine y_cb ?_
          refine y_cons ?_
          refine y_lc ?_
          refine k_iZipA ?_
          refine y_cons ?_
          refine y_var rfl ?_
          refine y_cons ?_
          refine y_var rfl ?_
          refine y_nil ?_
          refine k_srcZA d_found_ d_due_ z hw (fun J t11 T hw => ?_)
          refine y_lcG z mgN T hw (fun r12 a x H Ho N N' e z dx hw => ?_) (fun t23 H Ho e hw p20 ws21 z d22 => ?_)
          · replace z : Zs ([r12] ++ amb) H Ho := z
            replace d_due_ := D.mo d_due_ e
            replace d_found_ := D.mo d_found_ e
            have es13 := es8.trans e
            obtain ⟨mine_, other_⟩ := a
            refine c_gt2 (fun v_mine_ v_other_ => [some v_found_, some v_due_, some v_mine_, some v_other_]) (fun _ _ => rfl) dx z (fun v_mine_ v_other_ d_mine_ d_other_ => ?_)
            refine ⟨rfl, ?_⟩
            refine y_yes (w_t ?_)
            replace hw := run_itT (run_bret hw) rfl
            refine y_call ?_
            refine y_cons ?_
            refine y_var rfl ?_
            refine y_cons ?_
            refine y_var rfl ?_
            refine y_nil ?_
            refine ⟨[], _, _, _, _, _, rfl, z.all, (D.mo d_mine_ z.le), (D.mo d_other_ z.le), ?_⟩
            refine run_mono3 hw (fun t14 hw v H Ho19 e17 z18 d15 => ?_)
            replace z := z.unlend e17 z18
            first | obtain rfl := d_bool d15 | cases d_bool d15
            exact (run_ret hw) _ _ _ (Same.refl _) z (Dq.bl _)
          replace d_due_ := D.mo d_due_ e
          replace d_found_ := D.mo d_found_ e
          have es24 := es8.trans e
          replace z : Zs ([(p20, HO.lst ws21)] ++ amb) H Ho := z
          have o25 := OL.mk (p := p20) d22
          refine y_nil ?_
          refine y_all (OL.lv o25 mg0) z ?_
          replace z : Zs amb _ _ := z.go [[(p20, HO.lst ws21)]] amb []
          exact (run_ret hw) _ _ _ es24 z (Dq.bl _)
    · refine y_nxS ?_
      refine y_ifS ?_
      refine y_test ?_
      refine y_op ?_
      refine y_var rfl ?_
      refine y_c ?_
      refine ⟨rfl, ?_⟩
      rw [dec_nonP d_due_]
      refine ⟨_, rfl, ?_⟩
      refine y_cases hw (fun hb hw => ?_) (fun hb hw => ?_)
      · refine y_ret ?_
        refine y_op ?_
        refine y_var rfl ?_
        refine y_c ?_
        refine ⟨rfl, ?_⟩
        rw [dec_nonP d_found_]
        exact (run_ret hw) _ _ _ es4 z (Dq.bl _)
      · refine y_nxS ?_
        refine y_ifS ?_
        refine y_or ?_
        refine y_tB ?_
        refine y_cb ?_
        refine y_cons ?_
        refine y_var rfl ?_
        refine y_cons (y_c (y_nil ?_))
        refine y_isiP (D.mo d_due_ z.le) hw.1 (by decide +kernel) ?_
        replace hw := (run_gd hw).2
        refine ⟨_, rfl, ?_⟩
        refine w_orJ hw (fun (s : Bool) (v : Bool) (H2 : Hp) => ∃ (Ho2 : Hp), Same Ho Ho2 ∧ Zs amb H2 Ho2 ∧ v = s) (fun hb hw => ?_) (fun hb hw => ?_) ?_
        · exact (run_ret hw) _ _ ⟨_, (Same.refl _), z, rfl⟩
        · refine y_tB ?_
          refine y_cb ?_
          refine y_cons ?_
          refine y_var rfl ?_
          refine y_cons (y_c (y_nil ?_))
          refine y_isiP (D.mo d_due_ z.le) hw.1 (by decide +kernel) ?_
          replace hw := (run_gd hw).2
          refine ⟨_, rfl, ?_⟩
          exact (run_ret hw) _ _ ⟨_, (Same.refl _), z, rfl⟩
        rintro t26 v H ⟨Ho, e, z, rfl⟩ hw
        replace d_due_ := D.mo d_due_ e
        replace d_found_ := D.mo d_found_ e
        have es29 := es4.trans e
        refine y_cases hw (fun hb hw => ?_) (fun hb hw => ?_)
        · refine y_ret ?_
          refine y_andV ?_
          refine y_op ?_
          refine y_cb ?_
          refine y_cons ?_
          refine y_var rfl ?_
          refine y_cons (y_c (y_nil ?_))
          refine y_isiP (D.mo d_found_ z.le) hw.1 (by decide +kernel) ?_
          replace hw := (run_gd hw).2
          refine y_cb ?_
          refine y_cons ?_
          refine y_var rfl ?_
          refine y_cons (y_c (y_nil ?_))
          refine y_isiP (D.mo d_due_ z.le) hw.1 (by decide +kernel) ?_
          replace hw := (run_gd hw).2
          refine y_eqb ?_
          refine ⟨_, rfl, ?_⟩
          refine w_andVJ hw (fun (s : Bool) (v : V) (H2 : Hp) => ∃ (Ho2 : Hp), Same Ho Ho2 ∧ Zs amb H2 Ho2 ∧ v = V.bl s) (fun hb hw => ?_) (fun hb hw => ?_) ?_
          · refine y_op ?_
            refine y_var rfl ?_
            refine y_var rfl ?_
            refine y_eqD (D.mo d_found_ z.le) (D.mo d_due_ z.le) hw.1 ?_
            replace hw := (run_gd hw).2
            exact (run_ret hw) _ _ ⟨_, (Same.refl _), z, rfl⟩
          · exact (run_ret hw) _ _ ⟨_, (Same.refl _), z, rfl⟩
          rintro t30 v H ⟨Ho, e, z, rfl⟩ hw
          replace d_due_ := D.mo d_due_ e
          replace d_found_ := D.mo d_found_ e
          have es33 := es29.trans e
          exact (run_ret hw) _ _ _ es33 z (Dq.bl _)
        · refine y_nxS ?_
          refine y_ret ?_
          refine y_andV ?_
          refine y_cb ?_
          refine y_cons ?_
          refine y_var rfl ?_
          refine y_cons (y_c (y_nil ?_))
          refine y_isiP (D.mo d_found_ z.le) hw.1 (by decide +kernel) ?_
          replace hw := (run_gd hw).2
          refine ⟨_, rfl, ?_⟩
          refine w_andVJ hw (fun (s : Bool) (v : V) (H2 : Hp) => ∃ (Ho2 : Hp), Same Ho Ho2 ∧ Zs amb H2 Ho2 ∧ v = V.bl s) (fun hb hw => ?_) (fun hb hw => ?_) ?_
          · refine y_andV ?_
            refine y_notV ?_
            refine y_cb ?_
            refine y_cons ?_
            refine y_var rfl ?_
            refine y_cons (y_c (y_nil ?_))
            refine y_isiP (D.mo d_found_ z.le) hw.1 (by decide +kernel) ?_
            replace hw := (run_gd hw).2
            refine ⟨_, rfl, ?_⟩
            refine ⟨_, rfl, ?_⟩
            refine w_andVJ hw (fun (s : Bool) (v : V) (H2 : Hp) => ∃ (Ho2 : Hp), Same Ho Ho2 ∧ Zs amb H2 Ho2 ∧ v = V.bl s) (fun hb hw => ?_) (fun hb hw => ?_) ?_
            · refine y_op ?_
              refine y_var rfl ?_
              refine y_var rfl ?_
              refine y_eqD (D.mo d_found_ z.le) (D.mo d_due_ z.le) hw.1 ?_
              replace hw := (run_gd hw).2
              exact (run_ret hw) _ _ ⟨_, (Same.refl _), z, rfl⟩
            · exact (run_ret hw) _ _ ⟨_, (Same.refl _), z, rfl⟩
            rintro t34 v H ⟨Ho, e, z, rfl⟩ hw
            replace d_due_ := D.mo d_due_ e
            replace d_found_ := D.mo d_found_ e
            have es37 := (Same.refl _).trans e
            exact (run_ret hw) _ _ ⟨_, es37, z, rfl⟩
          · exact (run_ret hw) _ _ ⟨_, (Same.refl _), z, rfl⟩
          rintro t38 v H ⟨Ho, e, z, rfl⟩ hw
          replace d_due_ := D.mo d_due_ e
          replace d_found_ := D.mo d_found_ e
          have es41 := es29.trans e
          exact (run_ret hw) _ _ _ es41 z (Dq.bl _)
abbrev sp_law_alike (K : PySem.W.Frag) (cl tb : Nat → Addr) : Sp := sp_law_alike_R 6 K cl tb
theorem ok_law_alike {f : Addr} {fd : FuncData} (F : Fun K "_law_alike" "_law_alike" s_law_alike f fd) (g : mg "_law_alike" = some (.ref f)) (kp : PySem.W.keepIn K (.ref f) = true) (b : Binds K fd ["found", "due"] []) (m_isinstance : mg "isinstance" = none) (m_tuple : mg "tuple" = none) (m_list : mg "list" = none) (m_len : mg "len" = none) (m_zip : mg "zip" = none) (m_all : mg "all" = none) (m_bool : mg "bool" = none) (m_str : mg "str" = none) (m_int : mg "int" = none) :
    FnOk P w K mg base CX0 7 f fd ["found", "due"] (sp_law_alike K cl tb) := by
  have key : ∀ n, FnOk P w K mg base CX0 (1 + n) f fd ["found", "due"] (sp_law_alike_R n K cl tb) := fun n => by
    induction n with
    | zero => exact ⟨fun vs H Q E h => by obtain ⟨amb, Ho, v_found_, found_, v_due_, due_, rfl, z, d_found_, d_due_, hw⟩ := h; exact (show False from hw).elim, fun A outer s H args us vs Q E hr he hb hv h => by obtain ⟨amb, Ho, v_found_, found_, v_due_, due_, rfl, z, d_found_, d_due_, hw⟩ := h; exact (show False from hw).elim⟩
    | succ n ih => exact ok_law_alike_S F ⟨ih, g, kp, b⟩ m_isinstance m_tuple m_list m_len m_zip m_all m_bool m_str m_int
  exact key 6
def sp_law_note (K : PySem.W.Frag) (cl tb : Nat → Addr) : Sp := fun vs H Q E => ∃ (amb : Grp) (Ho : Hp) (v0 : V) (x0 : (H4 (List Int) (List Int) Int Int)) (g0 : Grp) (v1 : V) (x1 : (List Int)), vs = [v0, v1] ∧ Zs (g0 ++ amb) H Ho ∧ OH K Ho v0 x0 g0 ∧ LV K amb Ho v1 x1 ∧ (m_law_note x0 x1).run fun r => ∀ v h0 H' Ho', Same Ho Ho' → Zs (h0 ++ amb) H' Ho' → Z.D K Ho' v r.1 → OH K Ho' v0 r.2 h0 → Q v H'
abbrev s_law_note : Stmt := topS 34
theorem sc_law_note : FnScope ["reel", "counts", "able", "k", "hand", "other"] ["reel", "counts"] (defScope s_law_note) := ⟨rfl, rfl, rfl, by decide +kernel, rfl, by decide +kernel, by decide +kernel⟩
theorem ok_law_note {f : Addr} {fd : FuncData} (F : Fun K "_law_note" "_law_note" s_law_note f fd) {f_law_draw : Addr} {fd_law_draw : FuncData} (c_law_draw : Cal P w K mg base CX0 "_law_draw" ["reel", "many"] 1 (sp_law_draw K cl tb) f_law_draw fd_law_draw) (m_len : mg "len" = none) (m_range : mg "range" = none) :
    FnOk P w K mg base CX0 2 f fd ["reel", "counts"] (sp_law_note K cl tb) := by
  refine F.ok sc_law_note (fun vs H Q E h => ?_) (fun cdv A outer s H vs Q E hr h => ?_)
  · obtain ⟨amb, Ho, v_reel_, reel_, g_reel_, v_counts_, counts_, rfl, _⟩ := h
    rfl
  · obtain ⟨amb, Ho, v_reel_, reel_, g_reel_, v_counts_, counts_, rfl, z, d_reel_, d_counts_, hw⟩ := h
    refine ⟨_, pss_cons (ps_setLc (i := 2) (own := [("k", 3)]) rfl sc_law_note.nd rfl rfl (sw_true rfl rfl rfl (by decide +kernel)) (pi_range1 (by rfl) m_range (pa_cons (pe_callB (zlen (K := K) rfl) (by rfl) m_len (by decide +kernel) (pa_cons (pv 1) (pa_nil))) (pa_nil))) (blkOk_by (N := ["reel", "counts", "able", "k", "hand", "other"]) (sc := defScope s_law_note) (by decide +kernel)) (fun _ _ _ _ _ => pg_name (i := 3) sc_law_note.nd rfl (Or.inl rfl)) (fun _ _ _ _ _ => pts_one (pt_cmpR (op_gt) (pe_ix (zix_list (K := K) rfl) (pv 1) (pv 3) (fun _ _ => rfl)) (pe_int) (nomark _))) (fun _ _ _ _ _ => pv 3)) (pss_cons (ps_if (pt_cmpR (op_lt) (pe_callB (zlen (K := K) rfl) (by rfl) m_len (by decide +kernel) (pa_cons (pv 2) (pa_nil))) (pe_int) (nomark _)) (pss_cons (ps_ret (pe_non)) (pss_nil)) (pss_nil)) (pss_cons (ps_set (i := 4) sc_law_note.nd rfl (Or.inl rfl) (pe_bm PySem.F.plainAttrs_list PySem.F.slot_list_pop PySem.F.type_list_pop mt_popAt (pv 2) (pa_cons (pe_call c_law_draw.ok (hr.mono (by decide)) (by rfl) c_law_draw.g c_law_draw.kp c_law_draw.b .nil pass0 (pa_cons (pv 0) (pa_cons (pe_callB (zlen (K := K) rfl) (by rfl) m_len (by decide +kernel) (pa_cons (pv 2) (pa_nil))) (pa_nil)))) (pa_nil)))) (pss_cons (ps_set (i := 5) sc_law_note.nd rfl (Or.inl rfl) (pe_ix (zix_list (K := K) rfl) (pv 2) (pe_call c_law_draw.ok (hr.mono (by decide)) (by rfl) c_law_draw.g c_law_draw.kp c_law_draw.b .nil pass0 (pa_cons (pv 0) (pa_cons (pe_callB (zlen (K := K) rfl) (by rfl) m_len (by decide +kernel) (pa_cons (pv 2) (pa_nil))) (pa_nil)))) (fun _ _ => rfl))) (pss_cons (ps_ret (pe_tup (pa_cons (pv 4) (pa_cons (pe_call c_law_draw.ok (hr.mono (by decide)) (by rfl) c_law_draw.g c_law_draw.kp c_law_draw.b .nil pass0 (pa_cons (pv 0) (pa_cons (pe_ix (zix_list (K := K) rfl) (pv 1) (pv 4) (fun _ _ => rfl)) (pa_nil)))) (pa_cons (pv 5) (pa_cons (pe_call c_law_draw.ok (hr.mono (by decide)) (by rfl) c_law_draw.g c_law_draw.kp c_law_draw.b .nil pass0 (pa_cons (pv 0) (pa_cons (pe_ix (zix_list (K := K) rfl) (pv 1) (pv 5) (fun _ _ => rfl)) (pa_nil)))) (pa_nil))))))) (pss_nil))))), ?_⟩
    refine l_asg (fun v => [_, _, some v, _, _, _]) (fun _ => rfl) ?_
    refine y_lc ?_
    refine k_iR1 ?_
    refine y_cons ?_
    refine y_cb ?_
    refine y_cons ?_
    refine y_var rfl ?_
    refine y_nil ?_
    refine y_len (LV.sub d_counts_ (mgS mgE)) z ?_
    refine y_nil ?_
    refine k_srcR1 (K := K) (Ho := Ho) hw.1 (fun J T => ?_)
    replace hw := (run_gd hw).2
    refine y_lcG z mgN T hw (fun r1 k_ v_k_ H Ho N N' e z d_k_ hw => ?_) (fun t8 H Ho e hw p5 ws6 z d7 => ?_)
    · replace z : Zs ([r1] ++ (g_reel_ ++ amb)) H Ho := z
      replace d_counts_ := LV.mo d_counts_ e
      replace d_reel_ := OH.mo d_reel_ e
      have es2 := (Same.refl _).trans e
      obtain rfl := d_int d_k_
      refine y_gname (σ' := [some v_reel_, some v_counts_, none, some (V.int k_), none, none]) rfl ?_
      refine ⟨rfl, ?_⟩
      refine y_test ?_
      refine y_op ?_
      refine y_op ?_
      refine y_var rfl ?_
      refine y_var rfl ?_
      refine y_ixL (LV.sub d_counts_ (mgS (mgS mgE))) z hw (fun t3 w d4 hw => ?_)
      first | obtain rfl := d_int d4 | cases d_int d4
      refine y_c ?_
      refine y_i0 ?_
      refine ⟨_, rfl, ?_⟩
      refine w_two (fun hb => ?_) (fun hb => ?_)
      · replace hw := run_itT (run_ret hw) hb
        refine y_var rfl ?_
        exact (run_ret hw) _ _ _ (Same.refl _) z (Dq.int _)
      · exact run_itF (run_ret hw) hb _ _ (Same.refl _) z
    replace d_counts_ := LV.mo d_counts_ e
    replace d_reel_ := OH.mo d_reel_ e
    have es9 := (Same.refl _).trans e
    replace z : Zs ([(p5, HO.lst ws6)] ++ (g_reel_ ++ amb)) H Ho := z
    have o10 := OL.mk (p := p5) d7
    refine l_o hw z o10 (fun able_ v_able_ g_able_ z d_able_ hw => ?_)
    refine y_ifS ?_
    refine y_test ?_
    refine y_op ?_
    refine y_cb ?_
    refine y_cons ?_
    refine y_var rfl ?_
    refine y_nil ?_
    refine y_len (OL.lv d_able_ mg0) z ?_
    refine y_c ?_
    refine y_i0 ?_
    refine ⟨_, rfl, ?_⟩
    refine y_cases hw (fun hb hw => ?_) (fun hb hw => ?_)
    · refine y_ret ?_
      refine y_c ?_
      replace z : Zs (g_reel_ ++ amb) _ _ := z.go [g_able_, g_reel_] amb [1]
      exact (run_ret hw) _ _ _ _ es9 z (show Z.D K Ho V.non (none : (Option (P4 Int Int Int Int))) from Dq.non) d_reel_
    · refine y_nxS ?_
      refine l_asg (fun v => [_, _, _, _, some v, _]) (fun _ => rfl) ?_
      refine y_bm ?_
      refine y_var rfl ?_
      refine g_tyL (OL.lv d_able_ mg0) z ?_
      refine y_cons ?_
      refine y_call ?_
      refine y_cons ?_
      refine y_var rfl ?_
      refine y_cons ?_
      refine y_cb ?_
      refine y_cons ?_
      refine y_var rfl ?_
      refine y_nil ?_
      refine y_len (OL.lv d_able_ mg0) z ?_
      refine y_nil ?_
      replace z : Zs (g_reel_ ++ (g_able_ ++ amb)) _ _ := z.go [g_able_, g_reel_] amb [1, 0]
      refine ⟨(g_able_ ++ amb), _, _, _, _, _, _, rfl, z, d_reel_, (Dq.int _), ?_⟩
      refine run_mono2 hw (fun t11 reel_ hw v g_reel_ H Ho e z d12 d_reel_ => ?_)
      replace d12 : Z.D K Ho v t11 := d12
      replace d_reel_ : OH K Ho v_reel_ reel_ g_reel_ := d_reel_
      replace d_able_ := OL.mo d_able_ e
      replace d_counts_ := LV.mo d_counts_ e
      have es14 := es9.trans e
      first | obtain rfl := d_int d12 | cases d_int d12
      refine y_nil ?_
      replace z : Zs (g_able_ ++ (g_reel_ ++ amb)) _ _ := z.go [g_reel_, g_able_] amb [1, 0]
      refine g_popI z d_able_ hw (fun t15 able_ w g_able_ H z d_able_ d16 hw => ?_)
      first | obtain rfl := d_int d16 | cases d_int d16
      refine l_i hw (fun hand_ hw => ?_)
      refine l_asg (fun v => [_, _, _, _, _, some v]) (fun _ => rfl) ?_
      refine y_op ?_
      refine y_var rfl ?_
      refine y_call ?_
      refine y_cons ?_
      refine y_var rfl ?_
      refine y_cons ?_
      refine y_cb ?_
      refine y_cons ?_
      refine y_var rfl ?_
      refine y_nil ?_
      refine y_len (OL.lv d_able_ mg0) z ?_
      refine y_nil ?_
      replace z : Zs (g_reel_ ++ (g_able_ ++ amb)) _ _ := z.go [g_able_, g_reel_] amb [1, 0]
      refine ⟨(g_able_ ++ amb), _, _, _, _, _, _, rfl, z, d_reel_, (Dq.int _), ?_⟩
      refine run_mono2 hw (fun t17 reel_ hw v g_reel_ H Ho e z d18 d_reel_ => ?_)
      replace d18 : Z.D K Ho v t17 := d18
      replace d_reel_ : OH K Ho v_reel_ reel_ g_reel_ := d_reel_
      replace d_able_ := OL.mo d_able_ e
      replace d_counts_ := LV.mo d_counts_ e
      have es20 := es14.trans e
      first | obtain rfl := d_int d18 | cases d_int d18
      refine y_ixL (OL.lv d_able_ (mgS mg0)) z hw (fun t21 w d22 hw => ?_)
      first | obtain rfl := d_int d22 | cases d_int d22
      refine l_i hw (fun other_ hw => ?_)
      refine y_ret ?_
      refine k_tup ?_
      refine y_cons ?_
      refine y_var rfl ?_
      refine y_cons ?_
      refine y_call ?_
      refine y_cons ?_
      refine y_var rfl ?_
      refine y_cons ?_
      refine y_op ?_
      refine y_var rfl ?_
      refine y_var rfl ?_
      refine y_ixL (LV.sub d_counts_ (mgS (mgS mgE))) z hw (fun t23 w d24 hw => ?_)
      first | obtain rfl := d_int d24 | cases d_int d24
      refine y_nil ?_
      refine ⟨(g_able_ ++ amb), _, _, _, _, _, _, rfl, z, d_reel_, (Dq.int _), ?_⟩
      refine run_mono2 hw (fun t25 reel_ hw v g_reel_ H Ho e z d26 d_reel_ => ?_)
      replace d26 : Z.D K Ho v t25 := d26
      replace d_reel_ : OH K Ho v_reel_ reel_ g_reel_ := d_reel_
      replace d_able_ := OL.mo d_able_ e
      replace d_counts_ := LV.mo d_counts_ e
      have es28 := es20.trans e
      first | obtain rfl := d_int d26 | cases d_int d26
      refine y_cons ?_
      refine y_var rfl ?_
      refine y_cons ?_
      refine y_call ?_
      refine y_cons ?_
      refine y_var rfl ?_
      refine y_cons ?_
      refine y_op ?_
      refine y_var rfl ?_
      refine y_var rfl ?_
      refine y_ixL (LV.sub d_counts_ (mgS (mgS mgE))) z hw (fun t29 w d30 hw => ?_)
      first | obtain rfl := d_int d30 | cases d_int d30
      refine y_nil ?_
      refine ⟨(g_able_ ++ amb), _, _, _, _, _, _, rfl, z, d_reel_, (Dq.int _), ?_⟩
      refine run_mono2 hw (fun t31 reel_ hw v g_reel_ H Ho e z d32 d_reel_ => ?_)
      replace d32 : Z.D K Ho v t31 := d32
      replace d_reel_ : OH K Ho v_reel_ reel_ g_reel_ := d_reel_
      replace d_able_ := OL.mo d_able_ e
      replace d_counts_ := LV.mo d_counts_ e
      have es34 := es28.trans e
      first | obtain rfl := d_int d32 | cases d_int d32
      refine y_nil ?_
      refine k_tupk (K := K) (x := (⟨hand_, t25, other_, t31⟩ : (P4 Int Int Int Int))) z (by show 4 ≤ sizeLine; decide) _ rfl (DqAll.cons (Dq.int _) (DqAll.cons (Dq.int _) (DqAll.cons (Dq.int _) (DqAll.cons (Dq.int _) DqAll.nil)))) (fun p H Ho e z d35 => ?_)
      replace d_able_ := OL.mo d_able_ e
      replace d_counts_ := LV.mo d_counts_ e
      replace d_reel_ := OH.mo d_reel_ e
      have es36 := es34.trans e
      have d37 := (show Z.D K Ho _ (some (⟨hand_, t25, other_, t31⟩ : (P4 Int Int Int Int))) from d35)
      replace z : Zs (g_reel_ ++ amb) _ _ := z.go [g_reel_, g_able_] amb [0]
      exact (run_ret hw) _ _ _ _ es36 z d37 d_reel_
def sp_law_other (K : PySem.W.Frag) (cl tb : Nat → Addr) : Sp := fun vs H Q E => ∃ (amb : Grp) (Ho : Hp) (v0 : V) (x0 : (H4 (List Int) (List Int) Int Int)) (g0 : Grp) (v1 : V) (x1 : (P4 Int Int Int Int)) (v2 : V) (x2 : (List Int)) (v3 : V) (x3 : Int), vs = [v0, v1, v2, v3] ∧ Zs (g0 ++ amb) H Ho ∧ OH K Ho v0 x0 g0 ∧ Z.D K Ho v1 x1 ∧ LV K amb Ho v2 x2 ∧ Z.D K Ho v3 x3 ∧ (m_law_other x0 x1 x2 x3).run fun r => ∀ v h0 H' Ho', Same Ho Ho' → Zs (h0 ++ amb) H' Ho' → Z.D K Ho' v r.1 → OH K Ho' v0 r.2 h0 → Q v H'
abbrev s_law_other : Stmt := topS 35
theorem sc_law_other : FnScope ["reel", "note", "counts", "place", "far", "low", "changed"] ["reel", "note", "counts", "place"] (defScope s_law_other) := ⟨rfl, rfl, rfl, by decide +kernel, rfl, by decide +kernel, by decide +kernel⟩
theorem ok_law_other {f : Addr} {fd : FuncData} (F : Fun K "_law_other" "_law_other" s_law_other f fd) {f_law_draw : Addr} {fd_law_draw : FuncData} (c_law_draw : Cal P w K mg base CX0 "_law_draw" ["reel", "many"] 1 (sp_law_draw K cl tb) f_law_draw fd_law_draw) (m_list : mg "list" = none) (m_len : mg "len" = none) :
    FnOk P w K mg base CX0 2 f fd ["reel", "note", "counts", "place"] (sp_law_other K cl tb) := by
  refine F.ok sc_law_other (fun vs H Q E h => ?_) (fun cdv A outer s H vs Q E hr h => ?_)
  · obtain ⟨amb, Ho, v_reel_, reel_, g_reel_, v_note_, note_, v_counts_, counts_, v_place_, place_, rfl, _⟩ := h
    rfl
  · obtain ⟨amb, Ho, v_reel_, reel_, g_reel_, v_note_, note_, v_counts_, counts_, v_place_, place_, rfl, z, d_reel_, d_note_, d_counts_, d_place_, hw⟩ := h
    refine ⟨_, pss_cons (ps_set (i := 4) sc_law_other.nd rfl (Or.inl rfl) (pe_call c_law_draw.ok (hr.mono (by decide)) (by rfl) c_law_draw.g c_law_draw.kp c_law_draw.b .nil pass0 (pa_cons (pv 0) (pa_cons (pe_ix (zix_list (K := K) rfl) (pe_lst (pa_cons (pe_int) (pa_cons (pe_int) (pa_cons (pe_op op_sub (pe_op op_pow (pe_int) (pe_int)) (pe_int)) (pa_nil))))) (pe_call c_law_draw.ok (hr.mono (by decide)) (by rfl) c_law_draw.g c_law_draw.kp c_law_draw.b .nil pass0 (pa_cons (pv 0) (pa_cons (pe_int) (pa_nil)))) (fun _ _ => rfl)) (pa_nil))))) (pss_cons (ps_set (i := 5) sc_law_other.nd rfl (Or.inl rfl) (pe_call c_law_draw.ok (hr.mono (by decide)) (by rfl) c_law_draw.g c_law_draw.kp c_law_draw.b .nil pass0 (pa_cons (pv 0) (pa_cons (pe_int) (pa_nil))))) (pss_cons (ps_set (i := 6) sc_law_other.nd rfl (Or.inl rfl) (pe_callTy (zlist (K := K) rfl) (by rfl) m_list (by decide +kernel) (pa_cons (pv 1) (pa_nil)))) (pss_cons (ps_if (pt_cmpR (op_eq) (pv 5) (pe_int) (nomark _)) (pss_cons (ps_asg (pe_op op_sub (pe_un un_neg (pe_int)) (pv 4)) (pg_sub (pv 6) (pv 3) set_list)) (pss_nil)) (pss_cons (ps_if (pt_cmpR (op_eq) (pv 5) (pe_int) (nomark _)) (pss_cons (ps_asg (pe_ix (zix_tup (K := K) rfl) (pv 1) (pe_op op_mod (pe_op op_add (pv 3) (pe_int)) (pe_int)) (fun _ _ => rfl)) (pg_sub (pv 6) (pv 3) set_list)) (pss_nil)) (pss_cons (ps_if (pt_cmpR (op_eq) (pe_op op_mod (pv 3) (pe_int)) (pe_int) (nomark _)) (pss_cons (ps_asg (pe_op op_add (pe_callB (zlen (K := K) rfl) (by rfl) m_len (by decide +kernel) (pa_cons (pv 2) (pa_nil))) (pv 4)) (pg_sub (pv 6) (pv 3) set_list)) (pss_nil)) (pss_cons (ps_asg (pe_op op_add (pe_ix (zix_list (K := K) rfl) (pv 2) (pe_ix (zix_tup (K := K) rfl) (pv 1) (pe_op op_sub (pv 3) (pe_int)) (fun _ _ => rfl)) (fun _ _ => rfl)) (pv 4)) (pg_sub (pv 6) (pv 3) set_list)) (pss_nil))) (pss_nil))) (pss_nil))) (pss_cons (ps_ret (pe_tup (pa_cons (pe_ix (zix_list (K := K) rfl) (pv 6) (pe_int) (fun _ _ => rfl)) (pa_cons (pe_ix (zix_list (K := K) rfl) (pv 6) (pe_int) (fun _ _ => rfl)) (pa_cons (pe_ix (zix_list (K := K) rfl) (pv 6) (pe_int) (fun _ _ => rfl)) (pa_cons (pe_ix (zix_list (K := K) rfl) (pv 6) (pe_int) (fun _ _ => rfl)) (pa_nil))))))) (pss_nil))))), ?_⟩
    obtain rfl := d_int d_place_
    refine l_asg (fun v => [_, _, _, _, some v, _, _]) (fun _ => rfl) ?_
    refine y_call ?_
    refine y_cons ?_
    refine y_var rfl ?_
    refine y_cons ?_
    refine y_op ?_
    refine k_lst ?_
    refine y_cons ?_
    refine y_c ?_
    refine y_cons ?_
    refine y_c ?_
    refine y_cons ?_
    refine y_op ?_
    refine y_op ?_
    refine y_c ?_
    refine y_c ?_
    refine y_ig hw.1 ?_
    replace hw := (run_gd hw).2
    refine y_c ?_
    refine y_i0 ?_
    refine y_nil ?_
    refine k_lstk (K := K) (xs := ([(1 : Int), (3 : Int), (((10 : Int) ^ ((30 : Int)).toNat) - (10 : Int))] : (List Int))) z (DqAll.cons (Dq.int _) (DqAll.cons (Dq.int _) (DqAll.cons (Dq.int _) DqAll.nil))) (by show 3 ≤ sizeLine; decide) (fun H p1 ws2 z d3 => ?_)
    replace z : Zs ([(p1, HO.lst ws2)] ++ (g_reel_ ++ amb)) H Ho := z
    have o4 := OL.mk (p := p1) d3
    refine y_call ?_
    refine y_cons ?_
    refine y_var rfl ?_
    refine y_cons ?_
    refine y_c ?_
    refine y_nil ?_
    replace z : Zs (g_reel_ ++ ([(p1, HO.lst ws2)] ++ amb)) _ _ := z.go [[(p1, HO.lst ws2)], g_reel_] amb [1, 0]
    refine ⟨([(p1, HO.lst ws2)] ++ amb), _, _, _, _, _, _, rfl, z, d_reel_, (Dq.int _), ?_⟩
    refine run_mono2 hw (fun t5 reel_ hw v g_reel_ H Ho e z d6 d_reel_ => ?_)
    replace d6 : Z.D K Ho v t5 := d6
    replace d_reel_ : OH K Ho v_reel_ reel_ g_reel_ := d_reel_
    replace d_counts_ := LV.mo d_counts_ e
    replace d_note_ := D.mo d_note_ e
    replace o4 := OL.mo o4 e
    replace d3 := DL.mo d3 e
    have es8 := (Same.refl _).trans e
    first | obtain rfl := d_int d6 | cases d_int d6
    refine y_ixL (OL.lv o4 (mgS mg0)) z hw (fun t9 w d10 hw => ?_)
    first | obtain rfl := d_int d10 | cases d_int d10
    refine y_nil ?_
    refine ⟨([(p1, HO.lst ws2)] ++ amb), _, _, _, _, _, _, rfl, z, d_reel_, (Dq.int _), ?_⟩
    refine run_mono2 hw (fun t11 reel_ hw v g_reel_ H Ho e z d12 d_reel_ => ?_)
    replace d12 : Z.D K Ho v t11 := d12
    replace d_reel_ : OH K Ho v_reel_ reel_ g_reel_ := d_reel_
    replace d_counts_ := LV.mo d_counts_ e
    replace d_note_ := D.mo d_note_ e
    have es14 := es8.trans e
    first | obtain rfl := d_int d12 | cases d_int d12
    refine l_i hw (fun far_ hw => ?_)
    replace z : Zs (g_reel_ ++ amb) _ _ := z.go [g_reel_, [(p1, HO.lst ws2)]] amb [0]
    refine l_asg (fun v => [_, _, _, _, _, some v, _]) (fun _ => rfl) ?_
    refine y_call ?_
    refine y_cons ?_
    refine y_var rfl ?_
    refine y_cons ?_
    refine y_c ?_
    refine y_nil ?_
    refine ⟨amb, _, _, _, _, _, _, rfl, z, d_reel_, (Dq.int _), ?_⟩
    refine run_mono2 hw (fun t15 reel_ hw v g_reel_ H Ho e z d16 d_reel_ => ?_)
    replace d16 : Z.D K Ho v t15 := d16
    replace d_reel_ : OH K Ho v_reel_ reel_ g_reel_ := d_reel_
    replace d_counts_ := LV.mo d_counts_ e
    replace d_note_ := D.mo d_note_ e
    have es18 := es14.trans e
    first | obtain rfl := d_int d16 | cases d_int d16
    refine l_i hw (fun low_ hw => ?_)
    refine l_asg (fun v => [_, _, _, _, _, _, some v]) (fun _ => rfl) ?_
    refine y_cb ?_
    refine y_cons ?_
    refine y_var rfl ?_
    refine y_nil ?_
    refine y_listT (ys := ([note_.a, note_.b, note_.c, note_.d] : List Int)) rfl d_note_ z (fun H p19 ws20 z d21 => ?_)
    replace z : Zs ([(p19, HO.lst ws20)] ++ (g_reel_ ++ amb)) H Ho := z
    have o22 := OL.mk (p := p19) d21
    refine l_o hw z o22 (fun changed_ v_changed_ g_changed_ z d_changed_ hw => ?_)
    refine y_ifS ?_
    refine y_test ?_
    refine y_op ?_
    refine y_var rfl ?_
    refine y_c ?_
    refine y_eqi ?_
    refine ⟨_, rfl, ?_⟩
    refine w_ifJ hw (fun (s : (List Int)) (σ : L2.St) (H : Hp) => ∃ Ho2, Same Ho Ho2 ∧ (fun (s : (List Int)) (σ : L2.St) (H Ho : Hp) => ∃ (g_changed_ : Grp), σ = [some v_reel_, some v_note_, some v_counts_, some (V.int place_), some (V.int far_), some (V.int low_), some v_changed_] ∧ Zs (g_changed_ ++ (g_reel_ ++ amb)) H Ho ∧ OL K Ho v_changed_ s g_changed_) s σ H Ho2) (fun hb hw => ?_) (fun hb hw => ?_) ?_
    · refine y_asgG ?_
      refine y_op ?_
      refine y_un ?_
      refine y_c ?_
      refine y_neg ?_
      refine y_var rfl ?_
      refine y_i0 ?_
      refine y_gsub ?_
      refine y_var rfl ?_
      refine y_var rfl ?_
      refine g_sti z d_changed_ (Dq.int _) hw (fun changed_ g_changed_ H z d_changed_ hw => ?_)
      exact (run_ret hw) _ _ ⟨_, (Same.refl _), ⟨_, rfl, z, d_changed_⟩⟩
    · refine y_ifS ?_
      refine y_test ?_
      refine y_op ?_
      refine y_var rfl ?_
      refine y_c ?_
      refine y_eqi ?_
      refine ⟨_, rfl, ?_⟩
      refine w_ifJ hw (fun (s : (List Int)) (σ : L2.St) (H : Hp) => ∃ Ho2, Same Ho Ho2 ∧ (fun (s : (List Int)) (σ : L2.St) (H Ho : Hp) => ∃ (g_changed_ : Grp), σ = [some v_reel_, some v_note_, some v_counts_, some (V.int place_), some (V.int far_), some (V.int low_), some v_changed_] ∧ Zs (g_changed_ ++ (g_reel_ ++ amb)) H Ho ∧ OL K Ho v_changed_ s g_changed_) s σ H Ho2) (fun hb hw => ?_) (fun hb hw => ?_) ?_
      · refine y_asgG ?_
        refine y_op ?_
        refine y_var rfl ?_
        refine y_op ?_
        refine y_op ?_
        refine y_var rfl ?_
        refine y_c ?_
        refine y_i0 ?_
        refine y_c ?_
        refine y_ig (by decide) ?_
        refine y_ixTp (show Z.D K Ho _ (⟨[note_.a, note_.b, note_.c, note_.d]⟩ : Tp Int) from d_note_) z hw (fun t23 w d24 hw => ?_)
        first | obtain rfl := d_int d24 | cases d_int d24
        refine y_gsub ?_
        refine y_var rfl ?_
        refine y_var rfl ?_
        refine g_sti z d_changed_ (Dq.int _) hw (fun changed_ g_changed_ H z d_changed_ hw => ?_)
        exact (run_ret hw) _ _ ⟨_, (Same.refl _), ⟨_, rfl, z, d_changed_⟩⟩
      · refine y_ifS ?_
        refine y_test ?_
        refine y_op ?_
        refine y_op ?_
        refine y_var rfl ?_
        refine y_c ?_
        refine y_ig (by decide) ?_
        refine y_c ?_
        refine y_eqi ?_
        refine ⟨_, rfl, ?_⟩
        refine w_ifJ hw (fun (s : (List Int)) (σ : L2.St) (H : Hp) => ∃ Ho2, Same Ho Ho2 ∧ (fun (s : (List Int)) (σ : L2.St) (H Ho : Hp) => ∃ (g_changed_ : Grp), σ = [some v_reel_, some v_note_, some v_counts_, some (V.int place_), some (V.int far_), some (V.int low_), some v_changed_] ∧ Zs (g_changed_ ++ (g_reel_ ++ amb)) H Ho ∧ OL K Ho v_changed_ s g_changed_) s σ H Ho2) (fun hb hw => ?_) (fun hb hw => ?_) ?_
        · refine y_asgG ?_
          refine y_op ?_
          refine y_cb ?_
          refine y_cons ?_
          refine y_var rfl ?_
          refine y_nil ?_
          refine y_len (LV.sub d_counts_ (mgS (mgS mgE))) z ?_
          refine y_var rfl ?_
          refine y_i0 ?_
          refine y_gsub ?_
          refine y_var rfl ?_
          refine y_var rfl ?_
          refine g_sti z d_changed_ (Dq.int _) hw (fun changed_ g_changed_ H z d_changed_ hw => ?_)
          exact (run_ret hw) _ _ ⟨_, (Same.refl _), ⟨_, rfl, z, d_changed_⟩⟩
        · refine y_asgG ?_
          refine y_op ?_
          refine y_op ?_
          refine y_var rfl ?_
          refine y_op ?_
          refine y_var rfl ?_
          refine y_op ?_
          refine y_var rfl ?_
          refine y_c ?_
          refine y_i0 ?_
          refine y_ixTp (show Z.D K Ho _ (⟨[note_.a, note_.b, note_.c, note_.d]⟩ : Tp Int) from d_note_) z hw (fun t25 w d26 hw => ?_)
          first | obtain rfl := d_int d26 | cases d_int d26
          refine y_ixL (LV.sub d_counts_ (mgS (mgS mgE))) z hw (fun t27 w d28 hw => ?_)
          first | obtain rfl := d_int d28 | cases d_int d28
          refine y_var rfl ?_
          refine y_i0 ?_
          refine y_gsub ?_
          refine y_var rfl ?_
          refine y_var rfl ?_
          refine g_sti z d_changed_ (Dq.int _) hw (fun changed_ g_changed_ H z d_changed_ hw => ?_)
          exact (run_ret hw) _ _ ⟨_, (Same.refl _), ⟨_, rfl, z, d_changed_⟩⟩
        rintro changed_ σ H ⟨Ho, e, g_changed_, rfl, z, d_changed_⟩ hw
        replace d_reel_ := OH.mo d_reel_ e
        have es29 := (Same.refl _).trans e
        exact (run_ret hw) _ _ ⟨_, es29, ⟨_, rfl, z, d_changed_⟩⟩
      rintro changed_ σ H ⟨Ho, e, g_changed_, rfl, z, d_changed_⟩ hw
      replace d_reel_ := OH.mo d_reel_ e
      have es30 := (Same.refl _).trans e
      exact (run_ret hw) _ _ ⟨_, es30, ⟨_, rfl, z, d_changed_⟩⟩
    rintro changed_ σ H ⟨Ho, e, g_changed_, rfl, z, d_changed_⟩ hw
    replace d_reel_ := OH.mo d_reel_ e
    have es31 := es18.trans e
    refine y_ret ?_
    refine k_tup ?_
    refine y_cons ?_
    refine y_op ?_
    refine y_var rfl ?_
    refine y_c ?_
    refine y_ixL (OL.lv d_changed_ mg0) z hw (fun t32 w d33 hw => ?_)
    first | obtain rfl := d_int d33 | cases d_int d33
    refine y_cons ?_
    refine y_op ?_
    refine y_var rfl ?_
    refine y_c ?_
    refine y_ixL (OL.lv d_changed_ mg0) z hw (fun t34 w d35 hw => ?_)
    first | obtain rfl := d_int d35 | cases d_int d35
    refine y_cons ?_
    refine y_op ?_
    refine y_var rfl ?_
    refine y_c ?_
    refine y_ixL (OL.lv d_changed_ mg0) z hw (fun t36 w d37 hw => ?_)
    first | obtain rfl := d_int d37 | cases d_int d37
    refine y_cons ?_
    refine y_op ?_
    refine y_var rfl ?_
    refine y_c ?_
    refine y_ixL (OL.lv d_changed_ mg0) z hw (fun t38 w d39 hw => ?_)
    first | obtain rfl := d_int d39 | cases d_int d39
    refine y_nil ?_
    refine k_tupk (K := K) (x := (⟨t32, t34, t36, t38⟩ : (P4 Int Int Int Int))) z (by show 4 ≤ sizeLine; decide) _ rfl (DqAll.cons (Dq.int _) (DqAll.cons (Dq.int _) (DqAll.cons (Dq.int _) (DqAll.cons (Dq.int _) DqAll.nil)))) (fun p H Ho e z d40 => ?_)
    replace d_changed_ := OL.mo d_changed_ e
    replace d_reel_ := OH.mo d_reel_ e
    have es41 := es31.trans e
    replace z : Zs (g_reel_ ++ amb) _ _ := z.go [g_changed_, g_reel_] amb [1]
    exact (run_ret hw) _ _ _ _ es41 z d40 d_reel_
def sp_law_notes (K : PySem.W.Frag) (cl tb : Nat → Addr) : Sp := fun vs H Q E => ∃ (amb : Grp) (Ho : Hp) (v0 : V) (x0 : (H4 (List Int) (List Int) Int Int)) (g0 : Grp) (v1 : V) (x1 : (List Int)), vs = [v0, v1] ∧ Zs (g0 ++ amb) H Ho ∧ OH K Ho v0 x0 g0 ∧ LV K amb Ho v1 x1 ∧ (m_law_notes x0 x1).run fun r => ∀ v h0 H' Ho', Same Ho Ho' → Zs (h0 ++ amb) H' Ho' → Z.D K Ho' v r.1 → OH K Ho' v0 r.2 h0 → Q v H'
abbrev s_law_notes : Stmt := topS 36
theorem sc_law_notes : FnScope ["reel", "counts", "spoil", "many", "at", "place", "some", "k"] ["reel", "counts"] (defScope s_law_notes) := ⟨rfl, rfl, rfl, by decide +kernel, rfl, by decide +kernel, by decide +kernel⟩
theorem ok_law_notes {f : Addr} {fd : FuncData} (F : Fun K "_law_notes" "_law_notes" s_law_notes f fd) {f_law_draw : Addr} {fd_law_draw : FuncData} (c_law_draw : Cal P w K mg base CX0 "_law_draw" ["reel", "many"] 1 (sp_law_draw K cl tb) f_law_draw fd_law_draw) {f_law_note : Addr} {fd_law_note : FuncData} (c_law_note : Cal P w K mg base CX0 "_law_note" ["reel", "counts"] 2 (sp_law_note K cl tb) f_law_note fd_law_note) {f_law_other : Addr} {fd_law_other : FuncData} (c_law_other : Cal P w K mg base CX0 "_law_other" ["reel", "note", "counts", "place"] 2 (sp_law_other K cl tb) f_law_other fd_law_other) (m_range : mg "range" = none) (m_len : mg "len" = none) :
    FnOk P w K mg base CX0 3 f fd ["reel", "counts"] (sp_law_notes K cl tb) := by
  refine F.ok sc_law_notes (fun vs H Q E h => ?_) (fun cdv A outer s H vs Q E hr h => ?_)
  · obtain ⟨amb, Ho, v_reel_, reel_, g_reel_, v_counts_, counts_, rfl, _⟩ := h
    rfl
  · obtain ⟨amb, Ho, v_reel_, reel_, g_reel_, v_counts_, counts_, rfl, z, d_reel_, d_counts_, hw⟩ := h
    refine ⟨_, pss_cons (ps_set (i := 2) sc_law_notes.nd rfl (Or.inl rfl) (pe_call c_law_draw.ok (hr.mono (by decide)) (by rfl) c_law_draw.g c_law_draw.kp c_law_draw.b .nil pass0 (pa_cons (pv 0) (pa_cons (pe_int) (pa_nil))))) (pss_cons (ps_set (i := 3) sc_law_notes.nd rfl (Or.inl rfl) (pe_call c_law_draw.ok (hr.mono (by decide)) (by rfl) c_law_draw.g c_law_draw.kp c_law_draw.b .nil pass0 (pa_cons (pv 0) (pa_cons (pe_int) (pa_nil))))) (pss_cons (ps_set (i := 4) sc_law_notes.nd rfl (Or.inl rfl) (pe_call c_law_draw.ok (hr.mono (by decide)) (by rfl) c_law_draw.g c_law_draw.kp c_law_draw.b .nil pass0 (pa_cons (pv 0) (pa_cons (pe_int) (pa_nil))))) (pss_cons (ps_set (i := 5) sc_law_notes.nd rfl (Or.inl rfl) (pe_call c_law_draw.ok (hr.mono (by decide)) (by rfl) c_law_draw.g c_law_draw.kp c_law_draw.b .nil pass0 (pa_cons (pv 0) (pa_cons (pe_int) (pa_nil))))) (pss_cons (ps_setLc (i := 6) (own := [("k", 7)]) rfl sc_law_notes.nd rfl rfl (sw_true rfl rfl rfl (by decide +kernel)) (pi_range1 (by rfl) m_range (pa_cons (pv 3) (pa_nil))) (blkOk_by (N := ["reel", "counts", "spoil", "many", "at", "place", "some", "k"]) (sc := defScope s_law_notes) (by decide +kernel)) (fun _ _ _ _ _ => pg_name (i := 7) sc_law_notes.nd rfl (Or.inl rfl)) (fun _ _ _ _ _ => pts_nil) (fun _ _ _ _ _ => pe_call c_law_note.ok (hr.mono (by decide)) (by rfl) c_law_note.g c_law_note.kp c_law_note.b .nil pass0 (pa_cons (pv 0) (pa_cons (pv 1) (pa_nil))))) (pss_cons (ps_if (PW.pt (pw_or (pt_cmpR (zop_inD (K := K) rfl (room65 hr)) (pe_non) (pv 6) rfl) (pw_or1 (pt_cmpR (zop_eqD (K := K) rfl hr.units) (pv 6) (pe_lst (pa_nil)) (nomark _))))) (pss_cons (ps_ret (pe_lst (pa_nil))) (pss_nil)) (pss_nil)) (pss_cons (ps_if (pt_cmpR (op_eq) (pe_call c_law_draw.ok (hr.mono (by decide)) (by rfl) c_law_draw.g c_law_draw.kp c_law_draw.b .nil pass0 (pa_cons (pv 0) (pa_cons (pe_int) (pa_nil)))) (pe_int) (nomark _)) (pss_cons (ps_expr (pe_bm PySem.F.plainAttrs_list PySem.F.slot_list_append PySem.F.type_list_append mt_append (pv 6) (pa_cons (pe_ix (zix_list (K := K) rfl) (pv 6) (pe_int) (fun _ _ => rfl)) (pa_nil)))) (pss_nil)) (pss_nil)) (pss_cons (ps_if (pt_cmpR (op_eq) (pv 2) (pe_int) (nomark _)) (pss_cons (ps_set (i := 4) sc_law_notes.nd rfl (Or.inl rfl) (pe_op op_mod (pv 4) (pe_callB (zlen (K := K) rfl) (by rfl) m_len (by decide +kernel) (pa_cons (pv 6) (pa_nil))))) (pss_cons (ps_asg (pe_call c_law_other.ok (hr.mono (by decide)) (by rfl) c_law_other.g c_law_other.kp c_law_other.b .nil pass0 (pa_cons (pv 0) (pa_cons (pe_ix (zix_list (K := K) rfl) (pv 6) (pv 4) (fun _ _ => rfl)) (pa_cons (pv 1) (pa_cons (pv 5) (pa_nil)))))) (pg_sub (pv 6) (pv 4) set_list)) (pss_nil))) (pss_nil)) (pss_cons (ps_ret (pv 6)) (pss_nil))))))))), ?_⟩
    refine l_asg (fun v => [_, _, some v, _, _, _, _, _]) (fun _ => rfl) ?_
    refine y_call ?_
    refine y_cons ?_
    refine y_var rfl ?_
    refine y_cons ?_
    refine y_c ?_
    refine y_nil ?_
    refine ⟨amb, _, _, _, _, _, _, rfl, z, d_reel_, (Dq.int _), ?_⟩
    refine run_mono2 hw (fun t1 reel_ hw v g_reel_ H Ho e z d2 d_reel_ => ?_)
    replace d2 : Z.D K Ho v t1 := d2
    replace d_reel_ : OH K Ho v_reel_ reel_ g_reel_ := d_reel_
    replace d_counts_ := LV.mo d_counts_ e
    have es4 := (Same.refl _).trans e
    first | obtain rfl := d_int d2 | cases d_int d2
    refine l_i hw (fun spoil_ hw => ?_)
    refine l_asg (fun v => [_, _, _, some v, _, _, _, _]) (fun _ => rfl) ?_
    refine y_call ?_
    refine y_cons ?_
    refine y_var rfl ?_
    refine y_cons ?_
    refine y_c ?_
    refine y_nil ?_
    refine ⟨amb, _, _, _, _, _, _, rfl, z, d_reel_, (Dq.int _), ?_⟩
    refine run_mono2 hw (fun t5 reel_ hw v g_reel_ H Ho e z d6 d_reel_ => ?_)
    replace d6 : Z.D K Ho v t5 := d6
    replace d_reel_ : OH K Ho v_reel_ reel_ g_reel_ := d_reel_
    replace d_counts_ := LV.mo d_counts_ e
    have es8 := es4.trans e
    first | obtain rfl := d_int d6 | cases d_int d6
    refine l_i hw (fun many_ hw => ?_)
    refine l_asg (fun v => [_, _, _, _, some v, _, _, _]) (fun _ => rfl) ?_
    refine y_call ?_
    refine y_cons ?_
    refine y_var rfl ?_
    refine y_cons ?_
    refine y_c ?_
    refine y_nil ?_
    refine ⟨amb, _, _, _, _, _, _, rfl, z, d_reel_, (Dq.int _), ?_⟩
    refine run_mono2 hw (fun t9 reel_ hw v g_reel_ H Ho e z d10 d_reel_ => ?_)
    replace d10 : Z.D K Ho v t9 := d10
    replace d_reel_ : OH K Ho v_reel_ reel_ g_reel_ := d_reel_
    replace d_counts_ := LV.mo d_counts_ e
    have es12 := es8.trans e
    first | obtain rfl := d_int d10 | cases d_int d10
    refine l_i hw (fun at_ hw => ?_)
    refine l_asg (fun v => [_, _, _, _, _, some v, _, _]) (fun _ => rfl) ?_
    refine y_call ?_
    refine y_cons ?_
    refine y_var rfl ?_
    refine y_cons ?_
    refine y_c ?_
    refine y_nil ?_
    refine ⟨amb, _, _, _, _, _, _, rfl, z, d_reel_, (Dq.int _), ?_⟩
    refine run_mono2 hw (fun t13 reel_ hw v g_reel_ H Ho e z d14 d_reel_ => ?_)
    replace d14 : Z.D K Ho v t13 := d14
    replace d_reel_ : OH K Ho v_reel_ reel_ g_reel_ := d_reel_
    replace d_counts_ := LV.mo d_counts_ e
    have es16 := es12.trans e
    first | obtain rfl := d_int d14 | cases d_int d14
    refine l_i hw (fun place_ hw => ?_)
    refine l_asg (fun v => [_, _, _, _, _, _, some v, _]) (fun _ => rfl) ?_
    refine y_lc ?_
    refine k_iR1 ?_
    refine y_cons ?_
    refine y_var rfl ?_
    refine y_nil ?_
    refine k_srcR1 (K := K) (Ho := Ho) hw.1 (fun J T => ?_)
    replace hw := (run_gd hw).2
    refine y_lcS z T hw (fun (r17 : Addr × HO) (s : (H4 (List Int) (List Int) Int Int)) (H2 Ho2 : Hp) => ∃ (g_reel_ : Grp), OH K Ho2 v_reel_ s g_reel_ ∧ Zs ([r17] ++ (g_reel_ ++ amb)) H2 Ho2) (fun r H z => ⟨_, d_reel_, z⟩) ?_ ?_ ?_ ?_ ?_
    · rintro r s H Ho ⟨g_reel_, d_reel_, z⟩
      exact ⟨_, z, fun r m => mgN r m⟩
    · rintro r s H Ho H2 Ho2 ⟨g_reel_, d_reel_, z⟩ e t
      exact ⟨_, OH.mo d_reel_ e, t _ z⟩
    · rintro p o o' s H Ho hn ⟨g_reel_, d_reel_, z⟩
      exact ⟨_, d_reel_, Zs.put z hn⟩
    · intro r17 k_ v_k_ reel_ H Ho N N' e hI d_k_ hw
      obtain ⟨g_reel_, d_reel_, z⟩ := hI
      replace d_counts_ := LV.mo d_counts_ e
      have es18 := es16.trans e
      obtain rfl := d_int d_k_
      refine y_gname (σ' := [some v_reel_, some v_counts_, some (V.int spoil_), some (V.int many_), some (V.int at_), some (V.int place_), none, some (V.int k_)]) rfl ?_
      refine ⟨rfl, ?_⟩
      refine y_yes (w_t ?_)
      refine y_call ?_
      refine y_cons ?_
      refine y_var rfl ?_
      refine y_cons ?_
      refine y_var rfl ?_
      refine y_nil ?_
      replace z : Zs (g_reel_ ++ ([r17] ++ amb)) _ _ := z.go [[r17], g_reel_] amb [1, 0]
      refine ⟨([r17] ++ amb), _, _, _, _, _, _, rfl, z, d_reel_, (LV.sub d_counts_ (mgS mgE)), ?_⟩
      refine run_mono2 hw (fun t19 reel_ hw v g_reel_ H Ho e z d20 d_reel_ => ?_)
      replace d20 : Z.D K Ho v t19 := d20
      replace d_reel_ : OH K Ho v_reel_ reel_ g_reel_ := d_reel_
      replace d_counts_ := LV.mo d_counts_ e
      have es22 := (Same.refl _).trans e
      replace z : Zs ([r17] ++ (g_reel_ ++ amb)) _ _ := z.go [g_reel_, [r17]] amb [1, 0]
      exact (run_ret hw) _ _ _ es22 ⟨_, d_reel_, z⟩ d20
    rintro t26 reel_ p23 ws24 H Ho e ⟨g_reel_, d_reel_, z⟩ d25 hw
    replace d_counts_ := LV.mo d_counts_ e
    have es27 := es16.trans e
    replace z : Zs ([(p23, HO.lst ws24)] ++ (g_reel_ ++ amb)) H Ho := z
    have o28 := OL.mk (p := p23) d25
    refine l_o hw z o28 (fun some_ v_some_ g_some_ z d_some_ hw => ?_)
    refine y_ifS ?_
    refine y_or ?_
    refine y_test ?_
    refine y_op ?_
    refine y_c ?_
    refine y_var rfl ?_
    refine y_inD Dq.non (LV.dp (OL.lv d_some_ mg0) z) hw.1 ?_
    replace hw := (run_gd hw).2
    refine ⟨_, rfl, ?_⟩
    refine w_orJ hw (fun (s : Bool) (v : Bool) (H2 : Hp) => ∃ (Ho2 : Hp), Same Ho Ho2 ∧ Zs (g_some_ ++ (g_reel_ ++ amb)) H2 Ho2 ∧ v = s) (fun hb hw => ?_) (fun hb hw => ?_) ?_
    · exact (run_ret hw) _ _ ⟨_, (Same.refl _), z, rfl⟩
    · refine y_test ?_
      refine y_op ?_
      refine y_var rfl ?_
      refine k_lst ?_
      refine y_nil ?_
      refine k_lstk (K := K) (xs := ([] : (List (Option (P4 Int Int Int Int))))) z DqAll.nil (by show 0 ≤ sizeLine; decide) (fun H p29 ws30 z d31 => ?_)
      replace z : Zs ([(p29, HO.lst ws30)] ++ (g_some_ ++ (g_reel_ ++ amb))) H Ho := z
      have o32 := OL.mk (p := p29) d31
      refine y_eqD (LV.dp (OL.lv d_some_ (mgS mg0)) z) (LV.dp (OL.lv o32 mg0) z) hw.1 ?_
      replace hw := (run_gd hw).2
      refine ⟨_, rfl, ?_⟩
      replace z : Zs (g_some_ ++ (g_reel_ ++ amb)) _ _ := z.go [[(p29, HO.lst ws30)], g_some_, g_reel_] amb [1, 2]
      exact (run_ret hw) _ _ ⟨_, (Same.refl _), z, rfl⟩
    rintro t33 v H ⟨Ho, e, z, rfl⟩ hw
    replace d_counts_ := LV.mo d_counts_ e
    replace d_reel_ := OH.mo d_reel_ e
    replace d_some_ := OL.mo d_some_ e
    have es36 := es27.trans e
    refine y_cases hw (fun hb hw => ?_) (fun hb hw => ?_)
    · refine y_ret ?_
      refine k_lst ?_
      refine y_nil ?_
      refine k_lstk (K := K) (xs := ([] : (List (P4 Int Int Int Int)))) z DqAll.nil (by show 0 ≤ sizeLine; decide) (fun H p37 ws38 z d39 => ?_)
      replace z : Zs ([(p37, HO.lst ws38)] ++ (g_some_ ++ (g_reel_ ++ amb))) H Ho := z
      have o40 := OL.mk (p := p37) d39
      refine l_fr o40 z (fun Ho e z d41 => ?_)
      replace d_reel_ := OH.mo d_reel_ e
      replace d_some_ := OL.mo d_some_ e
      have es42 := es36.trans e
      replace z : Zs (g_reel_ ++ amb) _ _ := z.go [g_some_, g_reel_] amb [1]
      exact (run_ret hw) _ _ _ _ es42 z d41 d_reel_
    · refine y_nxS ?_
      refine y_ifS ?_
      refine y_test ?_
      refine y_op ?_
      refine y_call ?_
      refine y_cons ?_
      refine y_var rfl ?_
      refine y_cons ?_
      refine y_c ?_
      refine y_nil ?_
      replace z : Zs (g_reel_ ++ (g_some_ ++ amb)) _ _ := z.go [g_some_, g_reel_] amb [1, 0]
      refine ⟨(g_some_ ++ amb), _, _, _, _, _, _, rfl, z, d_reel_, (Dq.int _), ?_⟩
      refine run_mono2 hw (fun t43 reel_ hw v g_reel_ H Ho e z d44 d_reel_ => ?_)
      replace d44 : Z.D K Ho v t43 := d44
      replace d_reel_ : OH K Ho v_reel_ reel_ g_reel_ := d_reel_
      replace d_counts_ := LV.mo d_counts_ e
      replace d_some_ := OL.mo d_some_ e
      have es46 := es36.trans e
      first | obtain rfl := d_int d44 | cases d_int d44
      refine y_c ?_
      refine y_eqi ?_
      refine ⟨_, rfl, ?_⟩
      refine w_ifJ hw (fun (s : (List (Option (P4 Int Int Int Int)))) (σ : L2.St) (H : Hp) => ∃ Ho2, Same Ho Ho2 ∧ (fun (s : (List (Option (P4 Int Int Int Int)))) (σ : L2.St) (H Ho : Hp) => ∃ (g_some_ : Grp), σ = [some v_reel_, some v_counts_, some (V.int spoil_), some (V.int many_), some (V.int at_), some (V.int place_), some v_some_, none] ∧ Zs (g_reel_ ++ (g_some_ ++ amb)) H Ho ∧ OL K Ho v_some_ s g_some_) s σ H Ho2) (fun hb hw => ?_) (fun hb hw => ?_) ?_
      · refine y_drop ?_
        refine y_bm ?_
        refine y_var rfl ?_
        refine g_tyL (OL.lv d_some_ (mgS mg0)) z ?_
        refine y_cons ?_
        refine y_op ?_
        refine y_var rfl ?_
        refine y_c ?_
        refine y_ixL (OL.lv d_some_ (mgS mg0)) z hw (fun t47 w d48 hw => ?_)
        refine y_nil ?_
        replace z : Zs (g_some_ ++ (g_reel_ ++ amb)) _ _ := z.go [g_reel_, g_some_] amb [1, 0]
        refine g_app z d_some_ d48 hw (fun some_ g_some_ H z d_some_ hw => ?_)
        replace z : Zs (g_reel_ ++ (g_some_ ++ amb)) _ _ := z.go [g_some_, g_reel_] amb [1, 0]
        exact (run_ret hw) _ _ ⟨_, (Same.refl _), ⟨_, rfl, z, d_some_⟩⟩
      · refine y_nxS ?_
        exact (run_ret hw) _ _ ⟨_, (Same.refl _), ⟨_, rfl, z, d_some_⟩⟩
      rintro some_ σ H ⟨Ho, e, g_some_, rfl, z, d_some_⟩ hw
      replace d_counts_ := LV.mo d_counts_ e
      replace d_reel_ := OH.mo d_reel_ e
      have es49 := es46.trans e
      refine y_ifS ?_
      refine y_test ?_
      refine y_op ?_
      refine y_var rfl ?_
      refine y_c ?_
      refine y_eqi ?_
      refine ⟨_, rfl, ?_⟩
      refine w_ifJ hw (fun (s : (H4 (List Int) (List Int) Int Int) × (List (Option (P4 Int Int Int Int)))) (σ : L2.St) (H : Hp) => ∃ Ho2, Same Ho Ho2 ∧ (fun (s : (H4 (List Int) (List Int) Int Int) × (List (Option (P4 Int Int Int Int)))) (σ : L2.St) (H Ho : Hp) => ∃ (g_reel_ : Grp) (g_some_ : Grp) (y_at_ : Option V), σ = [some v_reel_, some v_counts_, some (V.int spoil_), some (V.int many_), y_at_, some (V.int place_), some v_some_, none] ∧ Zs (g_reel_ ++ (g_some_ ++ amb)) H Ho ∧ OH K Ho v_reel_ s.1 g_reel_ ∧ OL K Ho v_some_ s.2 g_some_) s σ H Ho2) (fun hb hw => ?_) (fun hb hw => ?_) ?_
      · refine l_asg (fun v => [_, _, _, _, some v, _, _, _]) (fun _ => rfl) ?_
        refine y_op ?_
        refine y_var rfl ?_
        refine y_cb ?_
        refine y_cons ?_
        refine y_var rfl ?_
        refine y_nil ?_
        refine y_len (OL.lv d_some_ (mgS mg0)) z ?_
        refine y_ig hw.1 ?_
        replace hw := (run_gd hw).2
        refine l_i hw (fun at_ hw => ?_)
        refine y_asgG ?_
        refine y_call ?_
        refine y_cons ?_
        refine y_var rfl ?_
        refine y_cons ?_
        refine y_op ?_
        refine y_var rfl ?_
        refine y_var rfl ?_
        refine y_ixL (OL.lv d_some_ (mgS mg0)) z hw (fun t50 w d51 hw => ?_)
        refine y_get d51 hw (fun t52 d53 hw => ?_)
        refine y_cons ?_
        refine y_var rfl ?_
        refine y_cons ?_
        refine y_var rfl ?_
        refine y_nil ?_
        refine ⟨(g_some_ ++ amb), _, _, _, _, _, _, _, _, _, _, rfl, z, d_reel_, d53, (LV.sub d_counts_ (mgS mgE)), (Dq.int _), ?_⟩
        refine run_mono2 hw (fun t54 reel_ hw v g_reel_ H Ho e z d55 d_reel_ => ?_)
        replace d55 : Z.D K Ho v t54 := d55
        replace d_reel_ : OH K Ho v_reel_ reel_ g_reel_ := d_reel_
        replace d_counts_ := LV.mo d_counts_ e
        replace d_some_ := OL.mo d_some_ e
        have es57 := (Same.refl _).trans e
        have d58 := (show Z.D K Ho _ (some t54) from d55)
        refine y_gsub ?_
        refine y_var rfl ?_
        refine y_var rfl ?_
        replace z : Zs (g_some_ ++ (g_reel_ ++ amb)) _ _ := z.go [g_reel_, g_some_] amb [1, 0]
        refine g_sti z d_some_ d58 hw (fun some_ g_some_ H z d_some_ hw => ?_)
        replace z : Zs (g_reel_ ++ (g_some_ ++ amb)) _ _ := z.go [g_some_, g_reel_] amb [1, 0]
        exact (run_ret hw) _ _ ⟨_, es57, ⟨_, _, _, rfl, z, d_reel_, d_some_⟩⟩
      · refine y_nxS ?_
        exact (run_ret hw) _ _ ⟨_, (Same.refl _), ⟨_, _, _, rfl, z, d_reel_, d_some_⟩⟩
      rintro ⟨reel_, some_⟩ σ H ⟨Ho, e, g_reel_, g_some_, y_at_, rfl, z, d_reel_, d_some_⟩ hw
      have es59 := es49.trans e
      refine y_ret ?_
      refine y_var rfl ?_
      replace z : Zs (g_some_ ++ (g_reel_ ++ amb)) _ _ := z.go [g_reel_, g_some_] amb [1, 0]
      refine l_fr d_some_ z (fun Ho e z d_some_ => ?_)
      replace d_reel_ := OH.mo d_reel_ e
      have es60 := es59.trans e
      refine y_getAll d_some_ hw (fun t61 d62 hw => ?_)
      exact (run_ret hw) _ _ _ _ es60 z d62 d_reel_
def sp_law_there (K : PySem.W.Frag) (cl tb : Nat → Addr) : Sp := fun vs H Q E => ∃ (amb : Grp) (Ho : Hp) (v0 : V) (x0 : (List Int)) (v1 : V) (x1 : Int) (v2 : V) (x2 : Int), vs = [v0, v1, v2] ∧ Zs amb H Ho ∧ LV K amb Ho v0 x0 ∧ Z.D K Ho v1 x1 ∧ Z.D K Ho v2 x2 ∧ (m_law_there x0 x1 x2).run fun r => ∀ v H' Ho', Same Ho Ho' → Zs amb H' Ho' → Z.D K Ho' v r → Q v H'
abbrev s_law_there : Stmt := topS 37
theorem sc_law_there : FnScope ["counts", "hand", "k"] ["counts", "hand", "k"] (defScope s_law_there) := ⟨rfl, rfl, rfl, by decide +kernel, rfl, by decide +kernel, by decide +kernel⟩
theorem ok_law_there {f : Addr} {fd : FuncData} (F : Fun K "_law_there" "_law_there" s_law_there f fd) (m_len : mg "len" = none) :
    FnOk P w K mg base CX0 1 f fd ["counts", "hand", "k"] (sp_law_there K cl tb) := by
  refine F.ok sc_law_there (fun vs H Q E h => ?_) (fun cdv A outer s H vs Q E hr h => ?_)
  · obtain ⟨amb, Ho, v_counts_, counts_, v_hand_, hand_, v_k_, k_, rfl, _⟩ := h
    rfl
  · obtain ⟨amb, Ho, v_counts_, counts_, v_hand_, hand_, v_k_, k_, rfl, z, d_counts_, d_hand_, d_k_, hw⟩ := h
    refine ⟨_, pss_cons (ps_ret (pe_and (pe_cmpR (op_le) (pe_int) (pv 1) (nomark _)) (pe_and (pe_cmpR (op_lt) (pv 1) (pe_callB (zlen (K := K) rfl) (by rfl) m_len (by decide +kernel) (pa_cons (pv 0) (pa_nil))) (nomark _)) (pe_and (pe_cmpR (op_le) (pe_int) (pv 2) (nomark _)) (pe_one (pe_cmpR (op_lt) (pv 2) (pe_ix (zix_list (K := K) rfl) (pv 0) (pv 1) (fun _ _ => rfl)) (nomark _))))))) (pss_nil), ?_⟩
    obtain rfl := d_int d_hand_
    obtain rfl := d_int d_k_
    refine y_ret ?_
    refine y_andV ?_
    refine y_op ?_
    refine y_c ?_
    refine y_var rfl ?_
    refine y_i0 ?_
    refine ⟨_, rfl, ?_⟩
    refine w_andVJ hw (fun (s : Bool) (v : V) (H2 : Hp) => ∃ (Ho2 : Hp), Same Ho Ho2 ∧ Zs amb H2 Ho2 ∧ v = V.bl s) (fun hb hw => ?_) (fun hb hw => ?_) ?_
    · refine y_andV ?_
      refine y_op ?_
      refine y_var rfl ?_
      refine y_cb ?_
      refine y_cons ?_
      refine y_var rfl ?_
      refine y_nil ?_
      refine y_len (LV.sub d_counts_ mgE) z ?_
      refine y_i0 ?_
      refine ⟨_, rfl, ?_⟩
      refine w_andVJ hw (fun (s : Bool) (v : V) (H2 : Hp) => ∃ (Ho2 : Hp), Same Ho Ho2 ∧ Zs amb H2 Ho2 ∧ v = V.bl s) (fun hb hw => ?_) (fun hb hw => ?_) ?_
      · refine y_andV ?_
        refine y_op ?_
        refine y_c ?_
        refine y_var rfl ?_
        refine y_i0 ?_
        refine ⟨_, rfl, ?_⟩
        refine w_andVJ hw (fun (s : Bool) (v : V) (H2 : Hp) => ∃ (Ho2 : Hp), Same Ho Ho2 ∧ Zs amb H2 Ho2 ∧ v = V.bl s) (fun hb hw => ?_) (fun hb hw => ?_) ?_
        · refine y_op ?_
          refine y_var rfl ?_
          refine y_op ?_
          refine y_var rfl ?_
          refine y_var rfl ?_
          refine y_ixL (LV.sub d_counts_ mgE) z hw (fun t1 w d2 hw => ?_)
          first | obtain rfl := d_int d2 | cases d_int d2
          refine y_i0 ?_
          exact (run_ret hw) _ _ ⟨_, (Same.refl _), z, rfl⟩
        · exact (run_ret hw) _ _ ⟨_, (Same.refl _), z, rfl⟩
        rintro t3 v H ⟨Ho, e, z, rfl⟩ hw
        replace d_counts_ := LV.mo d_counts_ e
        have es6 := (Same.refl _).trans e
        exact (run_ret hw) _ _ ⟨_, es6, z, rfl⟩
      · exact (run_ret hw) _ _ ⟨_, (Same.refl _), z, rfl⟩
      rintro t7 v H ⟨Ho, e, z, rfl⟩ hw
      replace d_counts_ := LV.mo d_counts_ e
      have es10 := (Same.refl _).trans e
      exact (run_ret hw) _ _ ⟨_, es10, z, rfl⟩
    · exact (run_ret hw) _ _ ⟨_, (Same.refl _), z, rfl⟩
    rintro t11 v H ⟨Ho, e, z, rfl⟩ hw
    replace d_counts_ := LV.mo d_counts_ e
    have es14 := (Same.refl _).trans e
    exact (run_ret hw) _ _ _ es14 z (Dq.bl _)
def sp_law_due (K : PySem.W.Frag) (cl tb : Nat → Addr) : Sp := fun vs H Q E => ∃ (amb : Grp) (Ho : Hp) (v0 : V) (x0 : (List Int)) (v1 : V) (x1 : (List (P4 Int Int Int Int))) (v2 : V) (x2 : Int), vs = [v0, v1, v2] ∧ Zs amb H Ho ∧ LV K amb Ho v0 x0 ∧ LV K amb Ho v1 x1 ∧ Z.D K Ho v2 x2 ∧ (m_law_due x0 x1 x2).run fun r => ∀ v H' Ho', Same Ho Ho' → Zs amb H' Ho' → Z.D K Ho' v r → Q v H'
abbrev s_law_due : Stmt := topS 38
theorem sc_law_due : FnScope ["counts", "some", "hands", "hand", "k", "other", "m"] ["counts", "some", "hands"] (defScope s_law_due) := ⟨rfl, rfl, rfl, by decide +kernel, rfl, by decide +kernel, by decide +kernel⟩
theorem ok_law_due {f : Addr} {fd : FuncData} (F : Fun K "_law_due" "_law_due" s_law_due f fd) {f_law_there : Addr} {fd_law_there : FuncData} (c_law_there : Cal P w K mg base CX0 "_law_there" ["counts", "hand", "k"] 1 (sp_law_there K cl tb) f_law_there fd_law_there) (m_len : mg "len" = none) (m_int : mg "int" = none) :
    FnOk P w K mg base CX0 2 f fd ["counts", "some", "hands"] (sp_law_due K cl tb) := by
  refine F.ok sc_law_due (fun vs H Q E h => ?_) (fun cdv A outer s H vs Q E hr h => ?_)
  · obtain ⟨amb, Ho, v_counts_, counts_, v_some_, some_, v_hands_, hands_, rfl, _⟩ := h
    rfl
  · obtain ⟨amb, Ho, v_counts_, counts_, v_some_, some_, v_hands_, hands_, rfl, z, d_counts_, d_some_, d_hands_, hw⟩ := h
    refine ⟨_, pss_cons (ps_for PassesOwn.never rfl (zpi_list (K := K) rfl (pv 1)) (zpg_tup (K := K) (n := 4) rfl rfl (pgs_cons (pg_name (i := 3) sc_law_due.nd rfl (Or.inl rfl)) (pgs_cons (pg_name (i := 4) sc_law_due.nd rfl (Or.inl rfl)) (pgs_cons (pg_name (i := 5) sc_law_due.nd rfl (Or.inl rfl)) (pgs_cons (pg_name (i := 6) sc_law_due.nd rfl (Or.inl rfl)) (pgs_nil)))))) (pss_cons (ps_if (PW.pt (pw_or (pt_cmpR (op_eq) (pv 3) (pv 5) (nomark _)) (pw_or (pt_not (pt_val (pe_call c_law_there.ok (hr.mono (by decide)) (by rfl) c_law_there.g c_law_there.kp c_law_there.b .nil pass0 (pa_cons (pv 0) (pa_cons (pv 3) (pa_cons (pv 4) (pa_nil))))))) (pw_or1 (pt_not (pt_val (pe_call c_law_there.ok (hr.mono (by decide)) (by rfl) c_law_there.g c_law_there.kp c_law_there.b .nil pass0 (pa_cons (pv 0) (pa_cons (pv 5) (pa_cons (pv 6) (pa_nil))))))))))) (pss_cons (ps_ret (pe_int)) (pss_nil)) (pss_nil)) (pss_nil))) (pss_cons (ps_ret (pe_ix (zix_list (K := K) rfl) (pe_lst (pa_cons (pe_int) (pa_cons (pe_int) (pa_nil)))) (pe_callTy call_int1 (by rfl) m_int (by decide +kernel) (pa_cons (pe_cmpR (op_ne) (pe_callB (zlen (K := K) rfl) (by rfl) m_len (by decide +kernel) (pa_cons (pv 0) (pa_nil))) (pv 2) (nomark _)) (pa_nil))) (fun _ _ => rfl))) (pss_nil)), ?_⟩
    obtain rfl := d_int d_hands_
    refine y_for ?_
    refine k_iList ?_
    refine y_var rfl ?_
    refine k_srcL (r0 := amb) (LV.sub d_some_ mgE) mgE z (fun J T => ?_)
    refine y_forC T hw (fun (s : Unit) (σ : L2.St) (H Ho : Hp) => ∃ (y_hand_ : Option V) (y_k_ : Option V) (y_other_ : Option V) (y_m_ : Option V), σ = [some v_counts_, some v_some_, some (V.int hands_), y_hand_, y_k_, y_other_, y_m_] ∧ Zs amb H Ho) ⟨_, _, _, _, rfl, z⟩ ?_ ?_ ?_ ?_
    · intro s σ H Ho hI
      obtain ⟨y_hand_, y_k_, y_other_, y_m_, rfl, z⟩ := hI
      exact ⟨_, z, mgE⟩
    · intro s σ H Ho H2 Ho2 hI e t
      obtain ⟨y_hand_, y_k_, y_other_, y_m_, rfl, z⟩ := hI
      exact ⟨_, _, _, _, rfl, t _ z⟩
    · intro a x s σ H Ho N B e hI dx hw
      obtain ⟨y_hand_, y_k_, y_other_, y_m_, rfl, z⟩ := hI
      replace d_counts_ := LV.mo d_counts_ e
      have es1 := (Same.refl _).trans e
      obtain ⟨hand_, k_, other_, m_⟩ := a
      refine c_gt4 (fun v_hand_ v_k_ v_other_ v_m_ => [some v_counts_, some v_some_, some (V.int hands_), some v_hand_, some v_k_, some v_other_, some v_m_]) (fun _ _ _ _ => rfl) dx z (fun v_hand_ v_k_ v_other_ v_m_ d_hand_ d_k_ d_other_ d_m_ => ?_)
      obtain rfl := d_int d_hand_
      obtain rfl := d_int d_k_
      obtain rfl := d_int d_other_
      obtain rfl := d_int d_m_
      refine y_ifS ?_
      refine y_or ?_
      refine y_test ?_
      refine y_op ?_
      refine y_var rfl ?_
      refine y_var rfl ?_
      refine y_eqi ?_
      refine ⟨_, rfl, ?_⟩
      refine w_orJ hw (fun (s : Bool) (v : Bool) (H2 : Hp) => ∃ (Ho2 : Hp), Same Ho Ho2 ∧ Zs amb H2 Ho2 ∧ v = s) (fun hb hw => ?_) (fun hb hw => ?_) ?_
      · exact (run_ret hw) _ _ ⟨_, (Same.refl _), z, rfl⟩
      · refine y_or ?_
        refine y_not ?_
        refine y_tB ?_
        refine y_call ?_
        refine y_cons ?_
        refine y_var rfl ?_
        refine y_cons ?_
        refine y_var rfl ?_
        refine y_cons ?_
        refine y_var rfl ?_
        refine y_nil ?_
        refine ⟨amb, _, _, _, _, _, _, _, rfl, z, (LV.sub d_counts_ mgE), (Dq.int _), (Dq.int _), ?_⟩
        refine run_mono3 hw (fun t2 hw v H Ho e z d3 => ?_)
        replace d_counts_ := LV.mo d_counts_ e
        have es5 := (Same.refl _).trans e
        first | obtain rfl := d_bool d3 | cases d_bool d3
        refine ⟨_, rfl, ?_⟩
        refine w_orJ hw (fun (s : Bool) (v : Bool) (H2 : Hp) => ∃ (Ho2 : Hp), Same Ho Ho2 ∧ Zs amb H2 Ho2 ∧ v = s) (fun hb hw => ?_) (fun hb hw => ?_) ?_
        · exact (run_ret hw) _ _ ⟨_, (Same.refl _), z, rfl⟩
        · refine y_not ?_
          refine y_tB ?_
          refine y_call ?_
          refine y_cons ?_
          refine y_var rfl ?_
          refine y_cons ?_
          refine y_var rfl ?_
          refine y_cons ?_
          refine y_var rfl ?_
          refine y_nil ?_
          refine ⟨amb, _, _, _, _, _, _, _, rfl, z, (LV.sub d_counts_ mgE), (Dq.int _), (Dq.int _), ?_⟩
          refine run_mono3 hw (fun t6 hw v H Ho e z d7 => ?_)
          replace d_counts_ := LV.mo d_counts_ e
          have es9 := (Same.refl _).trans e
          first | obtain rfl := d_bool d7 | cases d_bool d7
          refine ⟨_, rfl, ?_⟩
          exact (run_ret hw) _ _ ⟨_, es9, z, rfl⟩
        rintro t10 v H ⟨Ho, e, z, rfl⟩ hw
        replace d_counts_ := LV.mo d_counts_ e
        have es13 := es5.trans e
        exact (run_ret hw) _ _ ⟨_, es13, z, rfl⟩
      rintro t14 v H ⟨Ho, e, z, rfl⟩ hw
      replace d_counts_ := LV.mo d_counts_ e
      have es17 := (Same.refl _).trans e
      refine y_cases hw (fun hb hw => ?_) (fun hb hw => ?_)
      · refine y_ret ?_
        refine y_c ?_
        exact (ctl_rt (run_ret hw)) _ _ _ (es1.trans es17) z (Dq.int _)
      · refine y_nxS ?_
        exact ctl_nx (run_ret hw) _ _ _ es17 ⟨_, _, _, _, rfl, z⟩
    intro s σ H Ho e hI hw
    obtain ⟨y_hand_, y_k_, y_other_, y_m_, rfl, z⟩ := hI
    replace d_counts_ := LV.mo d_counts_ e
    have es18 := (Same.refl _).trans e
    refine y_ret ?_
    refine y_op ?_
    refine k_lst ?_
    refine y_cons ?_
    refine y_c ?_
    refine y_cons ?_
    refine y_c ?_
    refine y_nil ?_
    refine k_lstk (K := K) (xs := ([(0 : Int), (2 : Int)] : (List Int))) z (DqAll.cons (Dq.int _) (DqAll.cons (Dq.int _) DqAll.nil)) (by show 2 ≤ sizeLine; decide) (fun H p19 ws20 z d21 => ?_)
    replace z : Zs ([(p19, HO.lst ws20)] ++ amb) H Ho := z
    have o22 := OL.mk (p := p19) d21
    refine y_cb ?_
    refine y_cons ?_
    refine y_op ?_
    refine y_cb ?_
    refine y_cons ?_
    refine y_var rfl ?_
    refine y_nil ?_
    refine y_len (LV.sub d_counts_ (mgS mgE)) z ?_
    refine y_var rfl ?_
    refine y_nei ?_
    refine y_nil ?_
    refine Or.inr ⟨_, rfl, ?_⟩
    refine y_ixL (OL.lv o22 mg0) z hw (fun t23 w d24 hw => ?_)
    first | obtain rfl := d_int d24 | cases d_int d24
    replace z : Zs amb _ _ := z.go [[(p19, HO.lst ws20)]] amb []
    exact (run_ret hw) _ _ _ es18 z (Dq.int _)
def sp_law_kind (K : PySem.W.Frag) (cl tb : Nat → Addr) : Sp := fun vs H Q E => ∃ (amb : Grp) (Ho : Hp) (v0 : V) (x0 : (Option Er)), vs = [v0] ∧ Zs amb H Ho ∧ XV cl K Ho v0 x0 ∧ (m_law_kind x0).run fun r => ∀ v H' Ho', Same Ho Ho' → Zs amb H' Ho' → Z.D K Ho' v r → Q v H'
abbrev s_law_kind : Stmt := topS 39
theorem sc_law_kind : FnScope ["caught"] ["caught"] (defScope s_law_kind) := ⟨rfl, rfl, rfl, by decide +kernel, rfl, by decide +kernel, by decide +kernel⟩
theorem ok_law_kind {f : Addr} {fd : FuncData} (F : Fun K "_law_kind" "_law_kind" s_law_kind f fd) {q_NoCut : Addr} (m_isinstance : mg "isinstance" = none) (m_ValueError : mg "ValueError" = none) (m_int : mg "int" = none) (xc : ∀ n, ExcC K (cl n)) (kitT_ValueError : ∀ n, PySem.W.kitOne K (.ref (cl n)) (.type "ValueError") = some (subT_ValueError n)) (kit_Held : ∀ n, PySem.W.kitOne K (.ref (cl n)) (.ref (cl 3)) = some (sub_Held n)) (gc_Held : mg "Held" = some (.ref (cl 3))) (kit_NoCut : ∀ n, PySem.W.kitOne K (.ref (cl n)) (.ref q_NoCut) = some (sub_NoCut n)) (gc_NoCut : mg "NoCut" = some (.ref q_NoCut)) (kit_Over : ∀ n, PySem.W.kitOne K (.ref (cl n)) (.ref (cl 1)) = some (sub_Over n)) (gc_Over : mg "Over" = some (.ref (cl 1))) (kit_NoNote : ∀ n, PySem.W.kitOne K (.ref (cl n)) (.ref (cl 2)) = some (sub_NoNote n)) (gc_NoNote : mg "NoNote" = some (.ref (cl 2))) (kit_NoHand : ∀ n, PySem.W.kitOne K (.ref (cl n)) (.ref (cl 0)) = some (sub_NoHand n)) (gc_NoHand : mg "NoHand" = some (.ref (cl 0))) :
    FnOk P w K mg base CX0 1 f fd ["caught"] (sp_law_kind K cl tb) := by
  refine F.ok sc_law_kind (fun vs H Q E h => ?_) (fun cdv A outer s H vs Q E hr h => ?_)
  · obtain ⟨amb, Ho, v_caught_, caught_, rfl, _⟩ := h
    rfl
  · obtain ⟨amb, Ho, v_caught_, caught_, rfl, z, d_caught_, hw⟩ := h
    refine ⟨_, pss_cons (ps_if (pt_cmpR (op_isN) (pv 0) (pe_non) (nomark _)) (pss_cons (ps_ret (pe_int)) (pss_nil)) (pss_nil)) (pss_cons (ps_if (PW.pt (pw_or (pt_not (pt_val (pe_callB (zisV (K := K) rfl) (by rfl) m_isinstance (by decide +kernel) (pa_cons (pv 0) (pa_cons (pe_bltn (v := .ty "ValueError") (by rfl) m_ValueError (by decide +kernel) rfl) pa_nil))))) (pw_or1 (pt_val (pe_callB (zisVT (K := K) rfl) (by rfl) m_isinstance (by decide +kernel) (pa_cons (pv 0) (pa_cons (pe_tup (pa_cons (pe_glob (v := .ref (cl 3)) rfl gc_Held rfl) (pa_cons (pe_glob (v := .ref q_NoCut) rfl gc_NoCut rfl) (pa_cons (pe_glob (v := .ref (cl 1)) rfl gc_Over rfl) (pa_nil))))) pa_nil))))))) (pss_cons (ps_ret (pe_int)) (pss_nil)) (pss_nil)) (pss_cons (ps_ret (pe_ix (zix_list (K := K) rfl) (pe_lst (pa_cons (pe_int) (pa_cons (pe_int) (pa_cons (pe_int) (pa_cons (pe_int) (pa_nil)))))) (pe_op op_add (pe_callTy call_int1 (by rfl) m_int (by decide +kernel) (pa_cons (pe_callB (zisV (K := K) rfl) (by rfl) m_isinstance (by decide +kernel) (pa_cons (pv 0) (pa_cons (pe_glob (v := .ref (cl 2)) rfl gc_NoNote rfl) pa_nil))) (pa_nil))) (pe_op op_mulW (pe_int) (pe_callTy call_int1 (by rfl) m_int (by decide +kernel) (pa_cons (pe_callB (zisV (K := K) rfl) (by rfl) m_isinstance (by decide +kernel) (pa_cons (pv 0) (pa_cons (pe_glob (v := .ref (cl 0)) rfl gc_NoHand rfl) pa_nil))) (pa_nil))))) (fun _ _ => rfl))) (pss_nil))), ?_⟩
    refine y_ifS ?_
    refine y_test ?_
    refine y_op ?_
    refine y_var rfl ?_
    refine y_c ?_
    refine ⟨rfl, ?_⟩
    rw [dec_nonX d_caught_]
    refine ⟨_, rfl, ?_⟩
    refine y_cases hw (fun hb hw => ?_) (fun hb hw => ?_)
    · refine y_ret ?_
      refine y_c ?_
      exact (run_ret hw) _ _ _ (Same.refl _) z (Dq.int _)
    · refine y_nxS ?_
      refine y_ifS ?_
      refine y_or ?_
      refine y_not ?_
      refine y_tB ?_
      refine y_cb ?_
      refine y_cons ?_
      refine y_var rfl ?_
      refine y_getX d_caught_ hw (fun er1 xv2 hw => ?_)
      refine y_cons (y_c (y_nil ?_))
      refine y_isV xv2 z (xc _) (.ty _) (kitT_ValueError _) ?_
      refine ⟨_, rfl, ?_⟩
      refine w_orJ hw (fun (s : Bool) (v : Bool) (H2 : Hp) => ∃ (Ho2 : Hp), Same Ho Ho2 ∧ Zs amb H2 Ho2 ∧ v = s) (fun hb hw => ?_) (fun hb hw => ?_) ?_
      · exact (run_ret hw) _ _ ⟨_, (Same.refl _), z, rfl⟩
      · refine y_tB ?_
        refine y_cb ?_
        refine y_cons ?_
        refine y_var rfl ?_
        refine y_getX d_caught_ hw (fun er3 xv4 hw => ?_)
        refine y_cons (k_tcs z (.cons (.cons (.cons .nil))) (by show 3 ≤ sizeLine; decide) (fun p H Ho e z hp => ?_))
        replace d_caught_ := XV.mo d_caught_ e
        replace xv4 := XV.mo xv4 e
        have es5 := (Same.refl _).trans e
        refine y_nil (y_isVT xv4 z hp (xc _) (.cons (.own _) (.cons (.own _) (.cons (.own _) .nil))) (kitAny_or (kit_Held _) (kitAny_or (kit_NoCut _) (kitAny_or (kit_Over _) kitAny_nil))) ?_)
        refine ⟨_, rfl, ?_⟩
        exact (run_ret hw) _ _ ⟨_, es5, z, rfl⟩
      rintro t6 v H ⟨Ho, e, z, rfl⟩ hw
      replace d_caught_ := XV.mo d_caught_ e
      have es9 := (Same.refl _).trans e
      refine y_cases hw (fun hb hw => ?_) (fun hb hw => ?_)
      · refine y_ret ?_
        refine y_c ?_
        exact (run_ret hw) _ _ _ es9 z (Dq.int _)
      · refine y_nxS ?_
        refine y_ret ?_
        refine y_op ?_
        refine k_lst ?_
        refine y_cons ?_
        refine y_c ?_
        refine y_cons ?_
        refine y_c ?_
        refine y_cons ?_
        refine y_c ?_
        refine y_cons ?_
        refine y_c ?_
        refine y_nil ?_
        refine k_lstk (K := K) (xs := ([(3 : Int), (1 : Int), (2 : Int), (3 : Int)] : (List Int))) z (DqAll.cons (Dq.int _) (DqAll.cons (Dq.int _) (DqAll.cons (Dq.int _) (DqAll.cons (Dq.int _) DqAll.nil)))) (by show 4 ≤ sizeLine; decide) (fun H p10 ws11 z d12 => ?_)
        replace z : Zs ([(p10, HO.lst ws11)] ++ amb) H Ho := z
        have o13 := OL.mk (p := p10) d12
        refine y_op ?_
        refine y_cb ?_
        refine y_cons ?_
        refine y_cb ?_
        refine y_cons ?_
        refine y_var rfl ?_
        refine y_getX d_caught_ hw (fun er14 xv15 hw => ?_)
        refine y_cons (y_c (y_nil ?_))
        refine y_isV xv15 z (xc _) (.own _) (kit_NoNote _) ?_
        refine y_nil ?_
        refine Or.inr ⟨_, rfl, ?_⟩
        refine y_op ?_
        refine y_c ?_
        refine y_cb ?_
        refine y_cons ?_
        refine y_cb ?_
        refine y_cons ?_
        refine y_var rfl ?_
        refine y_getX d_caught_ hw (fun er16 xv17 hw => ?_)
        refine y_cons (y_c (y_nil ?_))
        refine y_isV xv17 z (xc _) (.own _) (kit_NoHand _) ?_
        refine y_nil ?_
        refine Or.inr ⟨_, rfl, ?_⟩
        refine y_ig hw.1 ?_
        replace hw := (run_gd hw).2
        refine y_i0 ?_
        refine y_ixL (OL.lv o13 mg0) z hw (fun t18 w d19 hw => ?_)
        first | obtain rfl := d_int d19 | cases d_int d19
        replace z : Zs amb _ _ := z.go [[(p10, HO.lst ws11)]] amb []
        exact (run_ret hw) _ _ _ es9 z (Dq.int _)
def sp_law_made (K : PySem.W.Frag) (cl tb : Nat → Addr) : Sp := fun vs H Q E => ∃ (amb : Grp) (Ho : Hp) (v0 : V) (x0 : ObWorks) (v1 : V) (x1 : ((List Int) × (List (P4 Int Int Int Int)))), vs = [v0, v1] ∧ Zs amb H Ho ∧ BC_Works K amb Ho v0 x0 ∧ LP K amb Ho v1 x1 ∧ (m_law_made x0 x1).run fun r => ∀ v H' Ho', Same Ho Ho' → Zs amb H' Ho' → Z.D K Ho' v r → Q v H'
abbrev s_law_made : Stmt := topS 40
theorem sc_law_made : FnScope ["works", "record", "caught", "e"] ["works", "record"] (defScope s_law_made) := ⟨rfl, rfl, rfl, by decide +kernel, rfl, by decide +kernel, by decide +kernel⟩
theorem ok_law_made {f : Addr} {fd : FuncData} (F : Fun K "_law_made" "_law_made" s_law_made f fd) {q_NoteError q_Replay : Addr} {f_Replay___init__ : Addr} {fd_Replay___init__ : FuncData} (c_Replay___init__ : KCal P w K mg base (L2.CX P w) q_Replay "Replay" ["self", "works", "record"] 11 (sp_Replay___init__ K cl tb) f_Replay___init__ fd_Replay___init__) {f_law_kind : Addr} {fd_law_kind : FuncData} (c_law_kind : Cal P w K mg base CX0 "_law_kind" ["caught"] 1 (sp_law_kind K cl tb) f_law_kind fd_law_kind) (gc_NoteError : mg "NoteError" = some (.ref q_NoteError)) (exm_NoteError : ∀ n, PySem.W.exmOne K (.ref (cl n)) (.ref q_NoteError) = some (sub_NoteError n)) (cf_Replay : CF K q_Replay "Replay" ns_Replay) :
    FnOk P w K mg base CX0 13 f fd ["works", "record"] (sp_law_made K cl tb) := by
  refine F.ok sc_law_made (fun vs H Q E h => ?_) (fun cdv A outer s H vs Q E hr h => ?_)
  · obtain ⟨amb, Ho, v_works_, works_, v_record_, record_, rfl, _⟩ := h
    rfl
  · obtain ⟨amb, Ho, v_works_, works_, v_record_, record_, rfl, z, d_works_, d_record_, hw⟩ := h
    refine ⟨_, pss_cons (ps_set (i := 2) sc_law_made.nd rfl (Or.inl rfl) (pe_non)) (zpss_try_keepB (K := K) (i := 3) rfl rfl rfl rfl sc_law_made.nd rfl rfl ⟨rfl, by decide, .inl gc_NoteError⟩ takes0 (fun W1 pn1 xe1 tk1 xp1 => pss_cons (ps_expr ((by exact (pe_makeS c_Replay___init__.mk_ c_Replay___init__.ok (hr.mono (by decide)) (by rfl) c_Replay___init__.g c_Replay___init__.b (fun σ => passAt tk1 σ) (pa_cons (pv 0) (pa_cons (pv 1) (pa_nil))))))) (pss_nil)) (fun ta1 oe1 cls1 d1 pn1 hz1 hf1 => pss_cons (ps_set (i := 2) sc_law_made.nd rfl (Or.inl rfl) (pv 3)) (pss_nil)) (pss_cons (ps_ret (pe_call c_law_kind.ok (hr.mono (by decide)) (by rfl) c_law_kind.g c_law_kind.kp c_law_kind.b .nil pass0 (pa_cons (pv 2) (pa_nil)))) (pss_nil))), ?_⟩
    obtain ⟨v_record__0_, v_record__1_, t_record_, d_record__0_, d_record__1_⟩ := d_record_
    refine h_nmG (P := fun x => LV K amb Ho v_record__0_ x) hw d_record__0_ (fun record__0_ d_record__0_ hw => ?_)
    refine h_nmG (P := fun x => LV K amb Ho v_record__1_ x) hw d_record__1_ (fun record__1_ d_record__1_ hw => ?_)
    refine l_asg (fun v => [_, _, some v, _]) (fun _ => rfl) ?_
    refine y_c ?_
    refine l_n ?_
    refine y_tryB (j := 2) (fun v => [_, _, some v, none]) exm_NoteError z hw (fun _ => rfl) (fun _ => rfl) rfl (fun Wx N hw => ?_) (fun caught_ u2 H Ho e z d_caught_ hw => ?_)
    · refine y_drop ?_
      refine y_make ?_
      refine y_cons ?_
      refine y_var rfl ?_
      refine y_cons ?_
      refine y_var rfl ?_
      refine y_nil ?_
      refine o_mk (ns := ns_Replay) z (fun a dx H Ho e z => ?_)
      replace t_record_ := TupAt.mo t_record_ e
      replace d_record__0_ := LV.mo d_record__0_ e
      replace d_record__1_ := LV.mo d_record__1_ e
      replace d_works_ := BC_Works.mo d_works_ e
      have es3 := (Same.refl _).trans e
      refine ⟨amb, _, a, dx, _, _, _, _, _, rfl, z, cf_Replay.at_, (BC_Works.sub d_works_ mgE), (LP.of2 t_record_ (LV.sub d_record__0_ mgE) (LV.sub d_record__1_ mgE)), ?_⟩
      refine exm_mono (run_exm hw) (fun t4 hw g6 H Ho e z d5 => ⟨rfl, ?_⟩) (fun er hw H Ho e z her => ?_)
      rotate_left
      · exact exP_er (run_ret hw) _ _ _ (es3.trans e) z (.inl ⟨her, rfl⟩)
      replace t_record_ := TupAt.mo t_record_ e
      replace d_record__0_ := LV.mo d_record__0_ e
      replace d_record__1_ := LV.mo d_record__1_ e
      replace d_works_ := BC_Works.mo d_works_ e
      have es7 := es3.trans e
      replace z : Zs amb _ _ := z.go [g6] amb []
      exact exP_ok (run_ret hw) _ _ es7 z
    · replace t_record_ := TupAt.mo t_record_ e
      replace d_record__0_ := LV.mo d_record__0_ e
      replace d_record__1_ := LV.mo d_record__1_ e
      replace d_works_ := BC_Works.mo d_works_ e
      have es8 := (Same.refl _).trans e
      refine y_ret ?_
      refine y_call ?_
      refine y_cons ?_
      refine y_var rfl ?_
      refine y_nil ?_
      refine ⟨amb, _, _, _, rfl, z, d_caught_, ?_⟩
      refine run_mono3 hw (fun t9 hw v H Ho e z d10 => ?_)
      replace d_caught_ := XV.mo d_caught_ e
      replace t_record_ := TupAt.mo t_record_ e
      replace d_record__0_ := LV.mo d_record__0_ e
      replace d_record__1_ := LV.mo d_record__1_ e
      replace d_works_ := BC_Works.mo d_works_ e
      have es12 := es8.trans e
      first | obtain rfl := d_int d10 | cases d_int d10
      exact (run_ret hw) _ _ _ es12 z (Dq.int _)
def sp_law_played (K : PySem.W.Frag) (cl tb : Nat → Addr) : Sp := fun vs H Q E => ∃ (amb : Grp) (Ho : Hp) (v0 : V) (x0 : ObWorks) (v1 : V) (x1 : ((List Int) × (List (P4 Int Int Int Int)))) (v2 : V) (x2 : Unit) (g2 : Grp), vs = [v0, v1] ∧ Zs (g2 ++ amb) H Ho ∧ BC_Works K amb Ho v0 x0 ∧ LP K amb Ho v1 x1 ∧ OTab (tb 0) "_law_played.<locals>.<lambda>" K Ho v2 x2 g2 ∧ (m_law_played x0 x1 x2).run fun r => ∀ v h2 H' Ho', Same Ho Ho' → Zs (h2 ++ amb) H' Ho' → Z.D K Ho' v r.1 → OTab (tb 0) "_law_played.<locals>.<lambda>" K Ho' v2 r.2 h2 → Q v H'
abbrev s_law_played : Stmt := topS 42
theorem sc_law_played : FnScope ["works", "record", "seen", "caught", "e"] ["works", "record"] (defScope s_law_played) := ⟨rfl, rfl, rfl, by decide +kernel, rfl, by decide +kernel, by decide +kernel⟩
theorem ok_law_played {f : Addr} {fd : FuncData} {tc : Addr} (F : FunC K "_law_played" "_law_played" s_law_played f fd tc) (TB : LamX.TabB base mg tc (tb 0)) {q_NoteError : Addr} {f_played : Addr} {fd_played : FuncData} (c_played : Cal P w K mg base (L2.CX P w) "played" ["works", "record", "choose"] 13 (sp_played K cl tb) f_played fd_played) {f_law_kind : Addr} {fd_law_kind : FuncData} (c_law_kind : Cal P w K mg base CX0 "_law_kind" ["caught"] 1 (sp_law_kind K cl tb) f_law_kind fd_law_kind) (gc_NoteError : mg "NoteError" = some (.ref q_NoteError)) (exm_NoteError : ∀ n, PySem.W.exmOne K (.ref (cl n)) (.ref q_NoteError) = some (sub_NoteError n)) :
    FnOk P w K mg base CX0 14 f fd ["works", "record"] (sp_law_played K cl tb) := by
  refine F.ok sc_law_played (fun vs H Q E h => ?_) (fun A outer s H vs Q E hr h => ?_)
  · obtain ⟨amb, Ho, v_works_, works_, v_record_, record_, v_tab_, tab_, g_tab_, rfl, _⟩ := h
    rfl
  · obtain ⟨amb, Ho, v_works_, works_, v_record_, record_, v_tab_, tab_, g_tab_, rfl, z, d_works_, d_record_, d_tab_, hw⟩ := h
    refine ⟨_, pss_cons (ps_set (i := 2) sc_law_played.nd rfl (Or.inr rfl) (pe_lst (pa_nil))) (pss_cons (ps_set (i := 3) sc_law_played.nd rfl (Or.inl rfl) (pe_non)) (zpss_try_keepB (K := K) (i := 4) rfl rfl rfl rfl sc_law_played.nd rfl rfl ⟨rfl, by decide, .inl gc_NoteError⟩ takes0 (fun W6 pn6 xe6 tk6 xp6 => pss_cons (ps_expr ((by exact (pe_callC (cells := (cellsFrom (s.heap.objs.size + 1) (defScope s_law_played).names [])) rfl (E := _) (lsc := laS l_law_played__lam0) (cs := ["seen"]) (is := [2]) c_played.ok (hr.mono (by decide)) (by rfl) c_played.g c_played.kp c_played.b (fun σ => passAt tk6 σ) hidesX (fun _ => rfl) (by exact (by decide +kernel : capB (laS l_law_played__lam0) (defScope s_law_played) ["works", "record", "seen", "caught", "e"] ["seen"] [2] = true)) (pa_cons (pv 0) (pa_cons (pv 1) (pa_cons ((by exact (pe_lamE (params := laP l_law_played__lam0) (body := laY l_law_played__lam0) (scope := laS l_law_played__lam0) TB rfl rfl (by exact (by decide +kernel : lamFB (laS l_law_played__lam0) (defScope s_law_played) = true)) (q := "_law_played.<locals>.<lambda>") (by exact (by decide +kernel : (("_law_played" : Str) ++ ".<locals>.") ++ "<lambda>" = "_law_played.<locals>.<lambda>")) (cells := (cellsFrom (s.heap.objs.size + 1) (defScope s_law_played).names [])) rfl))) (pa_nil)))))))) (pss_nil)) (fun ta6 oe6 cls6 d6 pn6 hz6 hf6 => pss_cons (ps_set (i := 3) sc_law_played.nd rfl (Or.inl rfl) (pv 4)) (pss_nil)) (pss_cons (ps_if (PW.pt (pw_and (pt_cmpR (op_notN) (pv 3) (pe_non) (nomark _)) (pw_and1 (pt_cmpR (zop_neD (K := K) rfl hr.units) (pv 2) (pe_lst (pa_nil)) (nomark _))))) (pss_cons (ps_ret (pe_int)) (pss_nil)) (pss_nil)) (pss_cons (ps_ret (pe_call c_law_kind.ok (hr.mono (by decide)) (by rfl) c_law_kind.g c_law_kind.kp c_law_kind.b .nil pass0 (pa_cons (pv 3) (pa_nil)))) (pss_nil))))), ?_⟩
    obtain ⟨v_record__0_, v_record__1_, t_record_, d_record__0_, d_record__1_⟩ := d_record_
    refine h_nmG (P := fun x => LV K amb Ho v_record__0_ x) hw d_record__0_ (fun record__0_ d_record__0_ hw => ?_)
    refine h_nmG (P := fun x => LV K amb Ho v_record__1_ x) hw d_record__1_ (fun record__1_ d_record__1_ hw => ?_)
    refine l_asg (fun v => [_, _, some v, _, _]) (fun _ => rfl) ?_
    refine k_lst ?_
    refine y_nil ?_
    refine k_lstk (K := K) (xs := ([] : (List (List Int)))) z DqAll.nil (by show 0 ≤ sizeLine; decide) (fun H p1 ws2 z d3 => ?_)
    replace z : Zs ([(p1, HO.lst ws2)] ++ (g_tab_ ++ amb)) H Ho := z
    have o4 := OL.mk (p := p1) d3
    refine l_o hw z o4 (fun seen_ v_seen_ g_seen_ z d_seen_ hw => ?_)
    refine l_asg (fun v => [_, _, _, some v, _]) (fun _ => rfl) ?_
    refine y_c ?_
    refine l_n ?_
    replace z : Zs (g_tab_ ++ (g_seen_ ++ amb)) _ _ := z.go [g_seen_, g_tab_] amb [1, 0]
    refine y_tryBT (rs := (g_seen_ ++ amb)) (Ho := Ho) (j := 3) (PT := fun Ho g => OTab (tb 0) "_law_played.<locals>.<lambda>" K Ho v_tab_ () g) (fun (s : (List (List Int)) × Unit) (σ : L2.St) (H Ho : Hp) => ∃ (g_seen_ : Grp) (g_tab_ : Grp), σ = [some v_works_, some v_record_, some v_seen_, some V.non, none] ∧ Zs (g_tab_ ++ (g_seen_ ++ amb)) H Ho ∧ OL K Ho v_seen_ s.1 g_seen_ ∧ OTab (tb 0) "_law_played.<locals>.<lambda>" K Ho v_tab_ s.2 g_tab_) exm_NoteError (fun p e => OTab.mo p e) hw (fun _ => rfl) (fun _ => rfl) (fun H Ho gT e z pT => ?_) (fun s σ H Ho hI => ?_) (fun Wx N hw => ?_) ?_
    · replace t_record_ := TupAt.mo t_record_ e
      replace d_record__0_ := LV.mo d_record__0_ e
      replace d_record__1_ := LV.mo d_record__1_ e
      replace d_seen_ := OL.mo d_seen_ e
      replace d_works_ := BC_Works.mo d_works_ e
      have es18 := (Same.refl _).trans e
      exact ⟨_, _, rfl, z, d_seen_, pT⟩
    · obtain ⟨g_seen_, g_tab_, rfl, z, d_seen_, d_tab_⟩ := hI
      rfl
    · refine y_drop ?_
      refine y_callL ?_
      refine y_cons ?_
      refine y_var rfl ?_
      refine y_cons ?_
      refine y_var rfl ?_
      refine y_cons ?_
      refine y_lamE z d_tab_ (fun f7 H Ho g8 e z d9 dl10 => ?_)
      replace t_record_ := TupAt.mo t_record_ e
      replace d_record__0_ := LV.mo d_record__0_ e
      replace d_record__1_ := LV.mo d_record__1_ e
      replace d_seen_ := OL.mo d_seen_ e
      replace d_works_ := BC_Works.mo d_works_ e
      have es11 := (Same.refl _).trans e
      refine y_nil ?_
      refine y_callC (K := K) (cvs := [v_seen_]) dl10 z rfl (fun gC12 z dC13 => ?_)
      replace z : Zs (g_seen_ ++ (gC12 ++ (g8 ++ amb))) _ _ := z.go [gC12, g8, g_seen_] amb [2, 0, 1]
      refine ⟨(g8 ++ amb), _, _, _, _, _, _, (), _, _, _, _, rfl, z, (BC_Works.sub d_works_ (mgS mgE)), (LP.of2 t_record_ (LV.sub d_record__0_ (mgS mgE)) (LV.sub d_record__1_ (mgS mgE))), dC13, d_seen_, ?_⟩
      refine exm_mono (run_exm hw) ?_ (fun er hw H Ho dd e z her => ?_)
      rotate_left
      · refine hideE ?_
        replace z : Zs (gC12 ++ (g_seen_ ++ (g8 ++ amb))) _ _ := z.go [g_seen_, gC12, g8] amb [1, 0, 2]
        replace z := z.hide
        replace z : Zs (g8 ++ (g_seen_ ++ amb)) _ _ := z.go [g_seen_, g8] amb [1, 0]
        exact exP_er (run_ret hw) _ _ _ _ (es11.trans e) z (OTab.mo d9 e) her
      rintro ⟨t14, seen_⟩ hw v g16 g_seen_ H Ho e z d15 d_seen_
      replace d15 : OL K Ho v t14 g16 := d15
      replace d_seen_ : OL K Ho v_seen_ seen_ g_seen_ := d_seen_
      refine hideK ?_
      replace z : Zs (gC12 ++ (g16 ++ (g_seen_ ++ (g8 ++ amb)))) _ _ := z.go [g16, g_seen_, gC12, g8] amb [2, 0, 1, 3]
      replace z := z.hide
      replace t_record_ := TupAt.mo t_record_ e
      replace d_record__0_ := LV.mo d_record__0_ e
      replace d_record__1_ := LV.mo d_record__1_ e
      replace d9 := OTab.mo d9 e
      replace d_works_ := BC_Works.mo d_works_ e
      have es17 := es11.trans e
      replace z : Zs (g_seen_ ++ (g8 ++ amb)) _ _ := z.go [g16, g_seen_, g8] amb [1, 2]
      replace z : Zs (g8 ++ (g_seen_ ++ amb)) _ _ := z.go [g_seen_, g8] amb [1, 0]
      exact exP_ok (run_ret hw) _ _ _ es17 ⟨_, _, rfl, z, d_seen_, d9⟩
    · intro caught_ u19 s σ H Ho e hI d_caught_ hw
      obtain ⟨seen_, tab_⟩ := s
      obtain ⟨g_seen_, g_tab_, rfl, z, d_seen_, d_tab_⟩ := hI
      replace t_record_ := TupAt.mo t_record_ e
      replace d_record__0_ := LV.mo d_record__0_ e
      replace d_record__1_ := LV.mo d_record__1_ e
      replace d_works_ := BC_Works.mo d_works_ e
      have es20 := (Same.refl _).trans e
      refine y_ifS ?_
      refine y_and ?_
      refine y_test ?_
      refine y_op ?_
      refine y_var rfl ?_
      refine y_c ?_
      refine ⟨rfl, ?_⟩
      rw [dec_nonX d_caught_, Option.not_isNone]
      refine ⟨_, rfl, ?_⟩
      refine w_andJ hw (fun (s : Bool) (v : Bool) (H2 : Hp) => ∃ (Ho2 : Hp), Same Ho Ho2 ∧ Zs (g_tab_ ++ (g_seen_ ++ amb)) H2 Ho2 ∧ v = s) (fun hb hw => ?_) (fun hb hw => ?_) ?_
      · refine y_test ?_
        refine y_op ?_
        refine y_var rfl ?_
        refine k_lst ?_
        refine y_nil ?_
        refine k_lstk (K := K) (xs := ([] : (List (List Int)))) z DqAll.nil (by show 0 ≤ sizeLine; decide) (fun H p21 ws22 z d23 => ?_)
        replace z : Zs ([(p21, HO.lst ws22)] ++ (g_tab_ ++ (g_seen_ ++ amb))) H Ho := z
        have o24 := OL.mk (p := p21) d23
        refine y_neD (LV.dp (OL.lv d_seen_ (mgS (mgS mg0))) z) (LV.dp (OL.lv o24 mg0) z) hw.1 ?_
        replace hw := (run_gd hw).2
        refine ⟨_, rfl, ?_⟩
        replace z : Zs (g_tab_ ++ (g_seen_ ++ amb)) _ _ := z.go [[(p21, HO.lst ws22)], g_tab_, g_seen_] amb [1, 2]
        exact (run_ret hw) _ _ ⟨_, (Same.refl _), z, rfl⟩
      · exact (run_ret hw) _ _ ⟨_, (Same.refl _), z, rfl⟩
      rintro t25 v H ⟨Ho, e, z, rfl⟩ hw
      replace d_caught_ := XV.mo d_caught_ e
      replace t_record_ := TupAt.mo t_record_ e
      replace d_record__0_ := LV.mo d_record__0_ e
      replace d_record__1_ := LV.mo d_record__1_ e
      replace d_seen_ := OL.mo d_seen_ e
      replace d_tab_ := OTab.mo d_tab_ e
      replace d_works_ := BC_Works.mo d_works_ e
      have es28 := es20.trans e
      refine y_cases hw (fun hb hw => ?_) (fun hb hw => ?_)
      · refine y_ret ?_
        refine y_c ?_
        replace z : Zs (g_tab_ ++ amb) _ _ := z.go [g_tab_, g_seen_] amb [0]
        exact (run_ret hw) _ _ _ _ es28 z (Dq.int _) d_tab_
      · refine y_nxS ?_
        refine y_ret ?_
        refine y_call ?_
        refine y_cons ?_
        refine y_var rfl ?_
        refine y_nil ?_
        refine ⟨(g_tab_ ++ (g_seen_ ++ amb)), _, _, _, rfl, z, d_caught_, ?_⟩
        refine run_mono3 hw (fun t29 hw v H Ho e z d30 => ?_)
        replace d_caught_ := XV.mo d_caught_ e
        replace t_record_ := TupAt.mo t_record_ e
        replace d_record__0_ := LV.mo d_record__0_ e
        replace d_record__1_ := LV.mo d_record__1_ e
        replace d_seen_ := OL.mo d_seen_ e
        replace d_tab_ := OTab.mo d_tab_ e
        replace d_works_ := BC_Works.mo d_works_ e
        have es32 := es28.trans e
        first | obtain rfl := d_int d30 | cases d_int d30
        replace z : Zs (g_tab_ ++ amb) _ _ := z.go [g_tab_, g_seen_] amb [0]
        exact (run_ret hw) _ _ _ _ es32 z (Dq.int _) d_tab_
def sp_law_right (K : PySem.W.Frag) (cl tb : Nat → Addr) : Sp := fun vs H Q E => ∃ (amb : Grp) (Ho : Hp) (v0 : V) (x0 : ObWorks) (v1 : V) (x1 : (List Int)) (v2 : V) (x2 : (List (P4 Int Int Int Int))) (v3 : V) (x3 : Int) (v4 : V) (x4 : Unit) (g4 : Grp), vs = [v0, v1, v2, v3] ∧ Zs (g4 ++ amb) H Ho ∧ BC_Works K amb Ho v0 x0 ∧ Z.D K Ho v1 x1 ∧ Z.D K Ho v2 x2 ∧ Z.D K Ho v3 x3 ∧ OTab (tb 0) "_law_played.<locals>.<lambda>" K Ho v4 x4 g4 ∧ (m_law_right x0 x1 x2 x3 x4).run fun r => ∀ v h4 H' Ho', Same Ho Ho' → Zs (h4 ++ amb) H' Ho' → Z.D K Ho' v r.1 → OTab (tb 0) "_law_played.<locals>.<lambda>" K Ho' v4 r.2 h4 → Q v H'
abbrev s_law_right : Stmt := topS 43
theorem sc_law_right : FnScope ["works", "counts", "some", "hands", "handed", "due", "one"] ["works", "counts", "some", "hands"] (defScope s_law_right) := ⟨rfl, rfl, rfl, by decide +kernel, rfl, by decide +kernel, by decide +kernel⟩
theorem ok_law_right {f : Addr} {fd : FuncData} (F : Fun K "_law_right" "_law_right" s_law_right f fd) {q_Replay q_Works : Addr} {f_law_due : Addr} {fd_law_due : FuncData} (c_law_due : Cal P w K mg base CX0 "_law_due" ["counts", "some", "hands"] 2 (sp_law_due K cl tb) f_law_due fd_law_due) {f_law_made : Addr} {fd_law_made : FuncData} (c_law_made : Cal P w K mg base CX0 "_law_made" ["works", "record"] 13 (sp_law_made K cl tb) f_law_made fd_law_made) {f_law_played : Addr} {fd_law_played : FuncData} (c_law_played : Cal P w K mg base CX0 "_law_played" ["works", "record"] 14 (sp_law_played K cl tb) f_law_played fd_law_played) {f_Replay___init__ : Addr} {fd_Replay___init__ : FuncData} (c_Replay___init__ : KCal P w K mg base (L2.CX P w) q_Replay "Replay" ["self", "works", "record"] 11 (sp_Replay___init__ K cl tb) f_Replay___init__ fd_Replay___init__) {f_law_alike : Addr} {fd_law_alike : FuncData} (c_law_alike : Cal P w K mg base CX0 "_law_alike" ["found", "due"] 7 (sp_law_alike K cl tb) f_law_alike fd_law_alike) {f_Replay_counts : Addr} {fd_Replay_counts : FuncData} (c_Replay_counts : MCal P w K mg base CX0 q_Replay "counts" ["self"] 1 (sp_Replay_counts K cl tb) f_Replay_counts fd_Replay_counts) {f_Replay___len__ : Addr} {fd_Replay___len__ : FuncData} (c_Replay___len__ : MCal P w K mg base CX0 q_Replay "__len__" ["self"] 1 (sp_Replay___len__ K cl tb) f_Replay___len__ fd_Replay___len__) {f_Replay_done : Addr} {fd_Replay_done : FuncData} (c_Replay_done : MCal P w K mg base CX0 q_Replay "done" ["self"] 1 (sp_Replay_done K cl tb) f_Replay_done fd_Replay_done) {f_Works_counts : Addr} {fd_Works_counts : FuncData} (c_Works_counts : MCal P w K mg base CX0 q_Works "counts" ["self"] 1 (sp_Works_counts K cl tb) f_Works_counts fd_Works_counts) (m_list : mg "list" = none) (m_len : mg "len" = none) (m_sum : mg "sum" = none) (cf_Replay : CF K q_Replay "Replay" ns_Replay) (cf_Works : CF K q_Works "Works" ns_Works) :
    FnOk P w K mg base CX0 15 f fd ["works", "counts", "some", "hands"] (sp_law_right K cl tb) := by
  refine F.ok sc_law_right (fun vs H Q E h => ?_) (fun cdv A outer s H vs Q E hr h => ?_)
  · obtain ⟨amb, Ho, v_works_, works_, v_counts_, counts_, v_some_, some_, v_hands_, hands_, v_tab_, tab_, g_tab_, rfl, _⟩ := h
    rfl
  · obtain ⟨amb, Ho, v_works_, works_, v_counts_, counts_, v_some_, some_, v_hands_, hands_, v_tab_, tab_, g_tab_, rfl, z, d_works_, d_counts_, d_some_, d_hands_, d_tab_, hw⟩ := h
    refine ⟨_, pss_cons (ps_set (i := 4) sc_law_right.nd rfl (Or.inl rfl) (pe_tup (pa_cons (pe_callTy (zlist (K := K) rfl) (by rfl) m_list (by decide +kernel) (pa_cons (pv 1) (pa_nil))) (pa_cons (pe_callTy (zlist (K := K) rfl) (by rfl) m_list (by decide +kernel) (pa_cons (pv 2) (pa_nil))) (pa_nil))))) (pss_cons (ps_set (i := 5) sc_law_right.nd rfl (Or.inl rfl) (pe_call c_law_due.ok (hr.mono (by decide)) (by rfl) c_law_due.g c_law_due.kp c_law_due.b .nil pass0 (pa_cons (pv 1) (pa_cons (pv 2) (pa_cons (pv 3) (pa_nil)))))) (pss_cons (ps_if (PW.pt (pw_or (pt_cmpR (op_ne) (pe_call c_law_made.ok (hr.mono (by decide)) (by rfl) c_law_made.g c_law_made.kp c_law_made.b .nil pass0 (pa_cons (pv 0) (pa_cons (pv 4) (pa_nil)))) (pv 5) (nomark _)) (pw_or1 (pt_cmpR (op_ne) (pe_call c_law_played.ok (hr.mono (by decide)) (by rfl) c_law_played.g c_law_played.kp c_law_played.b .nil pass0 (pa_cons (pv 0) (pa_cons (pv 4) (pa_nil)))) (pv 5) (nomark _))))) (pss_cons (ps_ret (pe_bl)) (pss_nil)) (pss_nil)) (pss_cons (ps_if (pt_cmpR (op_eq) (pv 5) (pe_int) (nomark _)) (pss_cons (ps_set (i := 6) sc_law_right.nd rfl (Or.inl rfl) ((by exact (pe_makeS c_Replay___init__.mk_ c_Replay___init__.ok (hr.mono (by decide)) (by rfl) c_Replay___init__.g c_Replay___init__.b (fun σ => passAt takes0 σ) (pa_cons (pv 0) (pa_cons (pv 4) (pa_nil))))))) (pss_cons (ps_if (PW.pt (pw_or (pt_not (pt_val (pe_call c_law_alike.ok (hr.mono (by decide)) (by rfl) c_law_alike.g c_law_alike.kp c_law_alike.b .nil pass0 (pa_cons ((by exact (pe_methS0' (E := fun _ => E0) (pv 6) cf_Replay.cl c_Replay_counts.me c_Replay_counts.ok (hr.mono (by decide)) c_Replay_counts.b (fun σ => passAt0 (E := fun _ => E0))))) (pa_cons (pe_op op_rep (pe_lst (pa_cons (pe_int) (pa_nil))) (pv 3)) (pa_nil)))))) (pw_or1 (pt_cmpR (op_ne) (pe_callB (call_lenO c_Replay___len__.me c_Replay___len__.ok (hr.mono (by decide)) c_Replay___len__.b) (by rfl) m_len (by decide +kernel) (pa_cons (pv 6) (pa_nil))) (pe_callB (zsum (K := K) rfl rfl) (by rfl) m_sum (by decide +kernel) (pa_cons (pv 1) (pa_nil))) (nomark _))))) (pss_cons (ps_ret (pe_bl)) (pss_nil)) (pss_nil)) (pss_cons (ps_if (pt_not (pt_val (pe_call c_law_alike.ok (hr.mono (by decide)) (by rfl) c_law_alike.g c_law_alike.kp c_law_alike.b .nil pass0 (pa_cons ((by exact (pe_methS0' (E := fun _ => E0) (pv 6) cf_Replay.cl c_Replay_done.me c_Replay_done.ok (hr.mono (by decide)) c_Replay_done.b (fun σ => passAt0 (E := fun _ => E0))))) (pa_cons (pe_cmpR (op_eq) (pe_callB (zsum (K := K) rfl rfl) (by rfl) m_sum (by decide +kernel) (pa_cons (pv 1) (pa_nil))) (pe_int) (nomark _)) (pa_nil)))))) (pss_cons (ps_ret (pe_bl)) (pss_nil)) (pss_nil)) (pss_nil)))) (pss_nil)) (pss_cons (ps_ret (pe_and (pe_cmpR (zop_eqD (K := K) rfl hr.units) (pv 4) (pe_tup (pa_cons (pv 1) (pa_cons (pv 2) (pa_nil)))) (nomark _)) (pe_one (pe_cmpR (zop_eqD (K := K) rfl hr.units) ((by exact (pe_methS0' (E := fun _ => E0) (pv 0) cf_Works.cl c_Works_counts.me c_Works_counts.ok (hr.mono (by decide)) c_Works_counts.b (fun σ => passAt0 (E := fun _ => E0))))) (pe_op op_rep (pe_lst (pa_cons (pe_int) (pa_nil))) (pv 3)) (nomark _))))) (pss_nil))))), ?_⟩
    obtain rfl := d_int d_hands_
    refine l_asg (fun v => [_, _, _, _, some v, _, _]) (fun _ => rfl) ?_
    refine k_tup ?_
    refine y_cons ?_
    refine y_cb ?_
    refine y_cons ?_
    refine y_var rfl ?_
    refine y_nil ?_
    refine y_list (LV.of d_counts_) z (fun H p1 ws2 z d3 => ?_)
    replace z : Zs ([(p1, HO.lst ws2)] ++ (g_tab_ ++ amb)) H Ho := z
    have o4 := OL.mk (p := p1) d3
    refine y_cons ?_
    refine y_cb ?_
    refine y_cons ?_
    refine y_var rfl ?_
    refine y_nil ?_
    refine y_list (LV.of d_some_) z (fun H p5 ws6 z d7 => ?_)
    replace z : Zs ([(p5, HO.lst ws6)] ++ ([(p1, HO.lst ws2)] ++ (g_tab_ ++ amb))) H Ho := z
    have o8 := OL.mk (p := p5) d7
    refine y_nil ?_
    refine p_tupk z (fun p H Ho e z t9 => ?_)
    replace d_counts_ := D.mo d_counts_ e
    replace d_some_ := D.mo d_some_ e
    replace d_tab_ := OTab.mo d_tab_ e
    replace d_works_ := BC_Works.mo d_works_ e
    replace o4 := OL.mo o4 e
    replace o8 := OL.mo o8 e
    have es10 := (Same.refl _).trans e
    replace z : Zs ([(p1, HO.lst ws2)] ++ ([(p5, HO.lst ws6)] ++ (g_tab_ ++ amb))) _ _ := z.go [[(p5, HO.lst ws6)], [(p1, HO.lst ws2)], g_tab_] amb [1, 0, 2]
    refine p_close t9 o4 o8 z (fun g11 d12 z => ?_)
    refine p_o hw z d12 (fun handed_ v_handed_ g_handed_ z d_handed_ hw => ?_)
    refine p_open d_handed_ z (fun v_handed__0_ v_handed__1_ g_handed__0_ g_handed__1_ t13 d_handed__0_ d_handed__1_ z => ?_)
    refine h_nmL hw d_handed__0_ (fun handed__0_ d_handed__0_ hw => ?_)
    refine h_nmL hw d_handed__1_ (fun handed__1_ d_handed__1_ hw => ?_)
    refine l_asg (fun v => [_, _, _, _, _, some v, _]) (fun _ => rfl) ?_
    refine y_call ?_
    refine y_cons ?_
    refine y_var rfl ?_
    refine y_cons ?_
    refine y_var rfl ?_
    refine y_cons ?_
    refine y_var rfl ?_
    refine y_nil ?_
    refine ⟨(g_handed__0_ ++ (g_handed__1_ ++ (g_tab_ ++ amb))), _, _, _, _, _, _, _, rfl, z, (LV.of d_counts_), (LV.of d_some_), (Dq.int _), ?_⟩
    refine run_mono3 hw (fun t14 hw v H Ho e z d15 => ?_)
    replace d_counts_ := D.mo d_counts_ e
    replace t13 := TupAt.mo t13 e
    replace d_handed__0_ := OL.mo d_handed__0_ e
    replace d_handed__1_ := OL.mo d_handed__1_ e
    replace d_some_ := D.mo d_some_ e
    replace d_tab_ := OTab.mo d_tab_ e
    replace d_works_ := BC_Works.mo d_works_ e
    have es17 := es10.trans e
    first | obtain rfl := d_int d15 | cases d_int d15
    refine l_i hw (fun due_ hw => ?_)
    refine y_ifS ?_
    refine y_or ?_
    refine y_test ?_
    refine y_op ?_
    refine y_call ?_
    refine y_cons ?_
    refine y_var rfl ?_
    refine y_cons ?_
    refine y_var rfl ?_
    refine y_nil ?_
    refine ⟨(g_handed__0_ ++ (g_handed__1_ ++ (g_tab_ ++ amb))), _, _, _, _, _, rfl, z, (BC_Works.sub d_works_ (mgS (mgS (mgS mgE)))), (LP.of2 t13 (OL.lv d_handed__0_ mg0) (OL.lv d_handed__1_ (mgS mg0))), ?_⟩
    refine run_mono3 hw (fun t18 hw v H Ho e z d19 => ?_)
    replace d_counts_ := D.mo d_counts_ e
    replace t13 := TupAt.mo t13 e
    replace d_handed__0_ := OL.mo d_handed__0_ e
    replace d_handed__1_ := OL.mo d_handed__1_ e
    replace d_some_ := D.mo d_some_ e
    replace d_tab_ := OTab.mo d_tab_ e
    replace d_works_ := BC_Works.mo d_works_ e
    have es21 := es17.trans e
    first | obtain rfl := d_int d19 | cases d_int d19
    refine y_var rfl ?_
    refine y_nei ?_
    refine ⟨_, rfl, ?_⟩
    refine w_orJ hw (fun (s : Bool × Unit) (v : Bool) (H2 : Hp) => ∃ (Ho2 : Hp) (g_tab_ : Grp), Same Ho Ho2 ∧ OTab (tb 0) "_law_played.<locals>.<lambda>" K Ho2 v_tab_ s.2 g_tab_ ∧ Zs (g_handed__0_ ++ (g_handed__1_ ++ (g_tab_ ++ amb))) H2 Ho2 ∧ v = s.1) (fun hb hw => ?_) (fun hb hw => ?_) ?_
    · exact (run_ret hw) _ _ ⟨_, _, (Same.refl _), d_tab_, z, rfl⟩
    · refine y_test ?_
      refine y_op ?_
      refine y_call ?_
      refine y_cons ?_
      refine y_var rfl ?_
      refine y_cons ?_
      refine y_var rfl ?_
      refine y_nil ?_
      replace z : Zs (g_tab_ ++ (g_handed__0_ ++ (g_handed__1_ ++ amb))) _ _ := z.go [g_handed__0_, g_handed__1_, g_tab_] amb [2, 0, 1]
      refine ⟨(g_handed__0_ ++ (g_handed__1_ ++ amb)), _, _, _, _, _, _, _, _, rfl, z, (BC_Works.sub d_works_ (mgS (mgS mgE))), (LP.of2 t13 (OL.lv d_handed__0_ mg0) (OL.lv d_handed__1_ (mgS mg0))), d_tab_, ?_⟩
      refine run_mono2 hw (fun t22 tab_ hw v g_tab_ H Ho e z d23 d_tab_ => ?_)
      replace d23 : Z.D K Ho v t22 := d23
      replace d_tab_ : OTab (tb 0) "_law_played.<locals>.<lambda>" K Ho v_tab_ tab_ g_tab_ := d_tab_
      replace d_counts_ := D.mo d_counts_ e
      replace t13 := TupAt.mo t13 e
      replace d_handed__0_ := OL.mo d_handed__0_ e
      replace d_handed__1_ := OL.mo d_handed__1_ e
      replace d_some_ := D.mo d_some_ e
      replace d_works_ := BC_Works.mo d_works_ e
      have es25 := (Same.refl _).trans e
      first | obtain rfl := d_int d23 | cases d_int d23
      refine y_var rfl ?_
      refine y_nei ?_
      refine ⟨_, rfl, ?_⟩
      replace z : Zs (g_handed__0_ ++ (g_handed__1_ ++ (g_tab_ ++ amb))) _ _ := z.go [g_tab_, g_handed__0_, g_handed__1_] amb [1, 2, 0]
      exact (run_ret hw) _ _ ⟨_, _, es25, d_tab_, z, rfl⟩
    rintro ⟨t26, tab_⟩ v H ⟨Ho, g_tab_, e, d_tab_, z, rfl⟩ hw
    replace d_counts_ := D.mo d_counts_ e
    replace t13 := TupAt.mo t13 e
    replace d_handed__0_ := OL.mo d_handed__0_ e
    replace d_handed__1_ := OL.mo d_handed__1_ e
    replace d_some_ := D.mo d_some_ e
    replace d_works_ := BC_Works.mo d_works_ e
    have es29 := es21.trans e
    refine y_cases hw (fun hb hw => ?_) (fun hb hw => ?_)
    · refine y_ret ?_
      refine y_c ?_
      replace z : Zs (g_tab_ ++ amb) _ _ := z.go [g_handed__0_, g_handed__1_, g_tab_] amb [2]
      exact (run_ret hw) _ _ _ _ es29 z (Dq.bl _) d_tab_
    · refine y_nxS ?_
      refine y_ifS ?_
      refine y_test ?_
      refine y_op ?_
      refine y_var rfl ?_
      refine y_c ?_
      refine y_eqi ?_
      refine ⟨_, rfl, ?_⟩
      refine y_cases hw (fun hb hw => ?_) (fun hb hw => ?_)
      · refine l_asg (fun v => [_, _, _, _, _, _, some v]) (fun _ => rfl) ?_
        refine y_make ?_
        refine y_cons ?_
        refine y_var rfl ?_
        refine y_cons ?_
        refine y_var rfl ?_
        refine y_nil ?_
        refine o_mk (ns := ns_Replay) z (fun a dx H Ho e z => ?_)
        replace d_counts_ := D.mo d_counts_ e
        replace t13 := TupAt.mo t13 e
        replace d_handed__0_ := OL.mo d_handed__0_ e
        replace d_handed__1_ := OL.mo d_handed__1_ e
        replace d_some_ := D.mo d_some_ e
        replace d_tab_ := OTab.mo d_tab_ e
        replace d_works_ := BC_Works.mo d_works_ e
        have es30 := es29.trans e
        refine ⟨(g_handed__0_ ++ (g_handed__1_ ++ (g_tab_ ++ amb))), _, a, dx, _, _, _, _, _, rfl, z, cf_Replay.at_, (BC_Works.sub d_works_ (mgS (mgS (mgS mgE)))), (LP.of2 t13 (OL.lv d_handed__0_ mg0) (OL.lv d_handed__1_ (mgS mg0))), ?_⟩
        refine exm_mono (run_sure hw) (fun t31 hw g33 H Ho e z d32 => ⟨rfl, ?_⟩) (fun _ hw => hw.elim)
        replace d_counts_ := D.mo d_counts_ e
        replace t13 := TupAt.mo t13 e
        replace d_handed__0_ := OL.mo d_handed__0_ e
        replace d_handed__1_ := OL.mo d_handed__1_ e
        replace d_some_ := D.mo d_some_ e
        replace d_tab_ := OTab.mo d_tab_ e
        replace d_works_ := BC_Works.mo d_works_ e
        have es34 := es30.trans e
        refine l_oG (P := OC_Replay K Ho) hw z d32 (fun one_ v_one_ g_one_ z d_one_ hw => ?_)
        refine y_ifS ?_
        refine y_or ?_
        refine y_not ?_
        refine y_tB ?_
        refine y_call ?_
        refine y_cons ?_
        refine y_meth ?_
        refine y_var rfl ?_
        refine OC_Replay.met cf_Replay d_one_ mg0 z (by decide +kernel) ?_
        refine y_nil ?_
        refine ⟨(g_one_ ++ (g_handed__0_ ++ (g_handed__1_ ++ (g_tab_ ++ amb)))), _, _, _, rfl, z, ⟨_, d_one_, mg0⟩, ?_⟩
        refine run_mono3 hw (fun t35 hw v g37 H Ho e z d36 => ?_)
        replace d_counts_ := D.mo d_counts_ e
        replace t13 := TupAt.mo t13 e
        replace d_handed__0_ := OL.mo d_handed__0_ e
        replace d_handed__1_ := OL.mo d_handed__1_ e
        replace d_one_ := OC_Replay.mo d_one_ e
        replace d_some_ := D.mo d_some_ e
        replace d_tab_ := OTab.mo d_tab_ e
        replace d_works_ := BC_Works.mo d_works_ e
        have es38 := es34.trans e
        refine y_cons ?_
        refine y_op ?_
        refine k_lst ?_
        refine y_cons ?_
        refine y_c ?_
        refine y_nil ?_
        refine k_lstk (K := K) (xs := ([(0 : Int)] : (List Int))) z (DqAll.cons (Dq.int _) DqAll.nil) (by show 1 ≤ sizeLine; decide) (fun H p39 ws40 z d41 => ?_)
        replace z : Zs ([(p39, HO.lst ws40)] ++ (g37 ++ (g_one_ ++ (g_handed__0_ ++ (g_handed__1_ ++ (g_tab_ ++ amb)))))) H Ho := z
        have o42 := OL.mk (p := p39) d41
        refine y_var rfl ?_
        refine y_rep z d41 hw.1 (fun H p43 ws44 z d45 => ?_)
        replace hw := (run_gd hw).2
        replace z : Zs ([(p43, HO.lst ws44)] ++ (g37 ++ (g_one_ ++ (g_handed__0_ ++ (g_handed__1_ ++ (g_tab_ ++ amb)))))) H Ho := z
        have o46 := OL.mk (p := p43) d45
        refine y_nil ?_
        refine ⟨[], _, _, _, _, _, rfl, z.all, (show Z.D K H _ (toPy t35) from (OwnD.rd (P := OL) d36 z.le (z.in_ (mgS mg0)))), (show Z.D K H _ (toPy (repL ([(0 : Int)] : (List Int)) hands_)) from (OwnD.rd (P := OL) o46 z.le (z.in_ mg0))), ?_⟩
        refine run_mono3 hw (fun t47 hw v H Ho52 e50 z51 d48 => ?_)
        replace z := z.unlend e50 z51
        first | obtain rfl := d_bool d48 | cases d_bool d48
        refine ⟨_, rfl, ?_⟩
        refine w_orJ hw (fun (s : Bool) (v : Bool) (H2 : Hp) => ∃ (Ho2 : Hp), Same Ho Ho2 ∧ Zs ([(p43, HO.lst ws44)] ++ (g37 ++ (g_one_ ++ (g_handed__0_ ++ (g_handed__1_ ++ (g_tab_ ++ amb)))))) H2 Ho2 ∧ v = s) (fun hb hw => ?_) (fun hb hw => ?_) ?_
        · exact (run_ret hw) _ _ ⟨_, (Same.refl _), z, rfl⟩
        · refine y_test ?_
          refine y_op ?_
          refine y_cb ?_
          refine y_cons ?_
          refine y_var rfl ?_
          refine y_nil ?_
          refine y_lenO ?_
          refine OC_Replay.met cf_Replay d_one_ (mgS (mgS mg0)) z (by decide +kernel) ?_
          refine ⟨([(p43, HO.lst ws44)] ++ (g37 ++ (g_one_ ++ (g_handed__0_ ++ (g_handed__1_ ++ (g_tab_ ++ amb)))))), _, _, _, rfl, z, ⟨_, d_one_, (mgS (mgS mg0))⟩, ?_⟩
          refine run_mono3 hw (fun t53 hw v H Ho e z d54 => ?_)
          replace d_counts_ := D.mo d_counts_ e
          replace t13 := TupAt.mo t13 e
          replace d_handed__0_ := OL.mo d_handed__0_ e
          replace d_handed__1_ := OL.mo d_handed__1_ e
          replace d_one_ := OC_Replay.mo d_one_ e
          replace d_some_ := D.mo d_some_ e
          replace d_tab_ := OTab.mo d_tab_ e
          replace d_works_ := BC_Works.mo d_works_ e
          have es56 := (Same.refl _).trans e
          first | obtain rfl := d_int d54 | cases d_int d54
          refine ⟨_, rfl, hw.1.1, hw.1.2, ?_⟩
          replace hw := (run_gd hw).2
          refine y_cb ?_
          refine y_cons ?_
          refine y_var rfl ?_
          refine y_nil ?_
          refine y_sum (LV.of d_counts_) z ?_
          refine y_nei ?_
          refine ⟨_, rfl, ?_⟩
          exact (run_ret hw) _ _ ⟨_, es56, z, rfl⟩
        rintro t57 v H ⟨Ho, e, z, rfl⟩ hw
        replace d_counts_ := D.mo d_counts_ e
        replace t13 := TupAt.mo t13 e
        replace d_handed__0_ := OL.mo d_handed__0_ e
        replace d_handed__1_ := OL.mo d_handed__1_ e
        replace d_one_ := OC_Replay.mo d_one_ e
        replace d_some_ := D.mo d_some_ e
        replace d_tab_ := OTab.mo d_tab_ e
        replace d_works_ := BC_Works.mo d_works_ e
        have es60 := es38.trans e
        refine y_cases hw (fun hb hw => ?_) (fun hb hw => ?_)
        · replace z : Zs (g_one_ ++ (g_handed__0_ ++ (g_handed__1_ ++ (g_tab_ ++ amb)))) _ _ := z.go [[(p43, HO.lst ws44)], g37, g_one_, g_handed__0_, g_handed__1_, g_tab_] amb [2, 3, 4, 5]
          refine y_ret ?_
          refine y_c ?_
          replace z : Zs (g_tab_ ++ amb) _ _ := z.go [g_one_, g_handed__0_, g_handed__1_, g_tab_] amb [3]
          exact (run_ret hw) _ _ _ _ es60 z (Dq.bl _) d_tab_
        · refine y_nxS ?_
          replace z : Zs (g_one_ ++ (g_handed__0_ ++ (g_handed__1_ ++ (g_tab_ ++ amb)))) _ _ := z.go [[(p43, HO.lst ws44)], g37, g_one_, g_handed__0_, g_handed__1_, g_tab_] amb [2, 3, 4, 5]
          refine y_ifS ?_
          refine y_not ?_
          refine y_tB ?_
          refine y_call ?_
          refine y_cons ?_
          refine y_meth ?_
          refine y_var rfl ?_
          refine OC_Replay.met cf_Replay d_one_ mg0 z (by decide +kernel) ?_
          refine y_nil ?_
          refine ⟨(g_one_ ++ (g_handed__0_ ++ (g_handed__1_ ++ (g_tab_ ++ amb)))), _, _, _, rfl, z, ⟨_, d_one_, mg0⟩, ?_⟩
          refine run_mono3 hw (fun t61 hw v H Ho e z d62 => ?_)
          replace d_counts_ := D.mo d_counts_ e
          replace t13 := TupAt.mo t13 e
          replace d_handed__0_ := OL.mo d_handed__0_ e
          replace d_handed__1_ := OL.mo d_handed__1_ e
          replace d_one_ := OC_Replay.mo d_one_ e
          replace d_some_ := D.mo d_some_ e
          replace d_tab_ := OTab.mo d_tab_ e
          replace d_works_ := BC_Works.mo d_works_ e
          have es64 := es60.trans e
          first | obtain rfl := d_bool d62 | cases d_bool d62
          refine y_cons ?_
          refine y_op ?_
          refine y_cb ?_
          refine y_cons ?_
          refine y_var rfl ?_
          refine y_nil ?_
          refine y_sum (LV.of d_counts_) z ?_
          refine y_c ?_
          refine y_eqi ?_
          refine y_nil ?_
          refine ⟨[], _, _, _, _, _, rfl, z.all, (show Z.D K H _ (toPy t61) from (Dq.bl _)), (show Z.D K H _ (toPy (decide (((counts_).sum) = (0 : Int)))) from (Dq.bl _)), ?_⟩
          refine run_mono3 hw (fun t65 hw v H Ho70 e68 z69 d66 => ?_)
          replace z := z.unlend e68 z69
          first | obtain rfl := d_bool d66 | cases d_bool d66
          refine ⟨_, rfl, ?_⟩
          refine y_cases hw (fun hb hw => ?_) (fun hb hw => ?_)
          · refine y_ret ?_
            refine y_c ?_
            replace z : Zs (g_tab_ ++ amb) _ _ := z.go [g_one_, g_handed__0_, g_handed__1_, g_tab_] amb [3]
            exact (run_ret hw) _ _ _ _ es64 z (Dq.bl _) d_tab_
          · refine y_nxS ?_
            refine y_nxS ?_
            refine y_ret ?_
            refine y_andV ?_
            refine y_op ?_
            refine y_var rfl ?_
            refine k_tup ?_
            refine y_cons ?_
            refine y_var rfl ?_
            refine y_cons ?_
            refine y_var rfl ?_
            refine y_nil ?_
            refine k_tupk (K := K) (x := (counts_, some_)) z (by show 2 ≤ sizeLine; decide) _ rfl (DqAll.cons d_counts_ (DqAll.cons d_some_ DqAll.nil)) (fun p H Ho e z d71 => ?_)
            replace d_counts_ := D.mo d_counts_ e
            replace t13 := TupAt.mo t13 e
            replace d_handed__0_ := OL.mo d_handed__0_ e
            replace d_handed__1_ := OL.mo d_handed__1_ e
            replace d_one_ := OC_Replay.mo d_one_ e
            replace d_some_ := D.mo d_some_ e
            replace d_tab_ := OTab.mo d_tab_ e
            replace d_works_ := BC_Works.mo d_works_ e
            have es72 := es64.trans e
            refine y_eqD (TupAt.rd t13 (OL.lv d_handed__0_ (mgS mg0)) (OL.lv d_handed__1_ (mgS (mgS mg0))) z) (D.mo d71 z.le) hw.1 ?_
            replace hw := (run_gd hw).2
            refine ⟨_, rfl, ?_⟩
            refine w_andVJ hw (fun (s : Bool) (v : V) (H2 : Hp) => ∃ (Ho2 : Hp), Same Ho Ho2 ∧ Zs (g_one_ ++ (g_handed__0_ ++ (g_handed__1_ ++ (g_tab_ ++ amb)))) H2 Ho2 ∧ v = V.bl s) (fun hb hw => ?_) (fun hb hw => ?_) ?_
            · refine y_op ?_
              refine y_meth ?_
              refine y_var rfl ?_
              refine BC_Works.met cf_Works d_works_ (mgS (mgS (mgS (mgS mgE)))) z (by decide +kernel) ?_
              refine y_nil ?_
              refine ⟨[], _, _, _, rfl, z.all, (BC_Works.rd (BC_Works.sub d_works_ (mgS (mgS (mgS (mgS mgE))))) z), ?_⟩
              refine run_mono3 hw (fun t73 hw v g75 H Ho78 e76 z77 d74 => ?_)
              replace z := z.unlendO e76 z77
              replace d74 : OL K Ho v t73 g75 := OL.pu d74
              refine y_op ?_
              refine k_lst ?_
              refine y_cons ?_
              refine y_c ?_
              refine y_nil ?_
              refine k_lstk (K := K) (xs := ([(0 : Int)] : (List Int))) z (DqAll.cons (Dq.int _) DqAll.nil) (by show 1 ≤ sizeLine; decide) (fun H p79 ws80 z d81 => ?_)
              replace z : Zs ([(p79, HO.lst ws80)] ++ (g75 ++ (g_one_ ++ (g_handed__0_ ++ (g_handed__1_ ++ (g_tab_ ++ amb)))))) H Ho := z
              have o82 := OL.mk (p := p79) d81
              refine y_var rfl ?_
              refine y_rep z d81 hw.1 (fun H p83 ws84 z d85 => ?_)
              replace hw := (run_gd hw).2
              replace z : Zs ([(p83, HO.lst ws84)] ++ (g75 ++ (g_one_ ++ (g_handed__0_ ++ (g_handed__1_ ++ (g_tab_ ++ amb)))))) H Ho := z
              have o86 := OL.mk (p := p83) d85
              refine y_eqD (LV.dp (OL.lv d74 (mgS mg0)) z) (LV.dp (OL.lv o86 mg0) z) hw.1 ?_
              replace hw := (run_gd hw).2
              replace z : Zs (g_one_ ++ (g_handed__0_ ++ (g_handed__1_ ++ (g_tab_ ++ amb)))) _ _ := z.go [[(p83, HO.lst ws84)], g75, g_one_, g_handed__0_, g_handed__1_, g_tab_] amb [2, 3, 4, 5]
              exact (run_ret hw) _ _ ⟨_, (Same.refl _), z, rfl⟩
            · exact (run_ret hw) _ _ ⟨_, (Same.refl _), z, rfl⟩
            rintro t87 v H ⟨Ho, e, z, rfl⟩ hw
            replace d_counts_ := D.mo d_counts_ e
            replace t13 := TupAt.mo t13 e
            replace d_handed__0_ := OL.mo d_handed__0_ e
            replace d_handed__1_ := OL.mo d_handed__1_ e
            replace d_one_ := OC_Replay.mo d_one_ e
            replace d_some_ := D.mo d_some_ e
            replace d_tab_ := OTab.mo d_tab_ e
            replace d_works_ := BC_Works.mo d_works_ e
            have es90 := es72.trans e
            replace z : Zs (g_tab_ ++ amb) _ _ := z.go [g_one_, g_handed__0_, g_handed__1_, g_tab_] amb [3]
            exact (run_ret hw) _ _ _ _ es90 z (Dq.bl _) d_tab_
      · refine y_nxS ?_
        refine y_ret ?_
        refine y_andV ?_
        refine y_op ?_
        refine y_var rfl ?_
        refine k_tup ?_
        refine y_cons ?_
        refine y_var rfl ?_
        refine y_cons ?_
        refine y_var rfl ?_
        refine y_nil ?_
        refine k_tupk (K := K) (x := (counts_, some_)) z (by show 2 ≤ sizeLine; decide) _ rfl (DqAll.cons d_counts_ (DqAll.cons d_some_ DqAll.nil)) (fun p H Ho e z d91 => ?_)
        replace d_counts_ := D.mo d_counts_ e
        replace t13 := TupAt.mo t13 e
        replace d_handed__0_ := OL.mo d_handed__0_ e
        replace d_handed__1_ := OL.mo d_handed__1_ e
        replace d_some_ := D.mo d_some_ e
        replace d_tab_ := OTab.mo d_tab_ e
        replace d_works_ := BC_Works.mo d_works_ e
        have es92 := es29.trans e
        refine y_eqD (TupAt.rd t13 (OL.lv d_handed__0_ mg0) (OL.lv d_handed__1_ (mgS mg0)) z) (D.mo d91 z.le) hw.1 ?_
        replace hw := (run_gd hw).2
        refine ⟨_, rfl, ?_⟩
        refine w_andVJ hw (fun (s : Bool) (v : V) (H2 : Hp) => ∃ (Ho2 : Hp), Same Ho Ho2 ∧ Zs (g_handed__0_ ++ (g_handed__1_ ++ (g_tab_ ++ amb))) H2 Ho2 ∧ v = V.bl s) (fun hb hw => ?_) (fun hb hw => ?_) ?_
        · refine y_op ?_
          refine y_meth ?_
          refine y_var rfl ?_
          refine BC_Works.met cf_Works d_works_ (mgS (mgS (mgS mgE))) z (by decide +kernel) ?_
          refine y_nil ?_
          refine ⟨[], _, _, _, rfl, z.all, (BC_Works.rd (BC_Works.sub d_works_ (mgS (mgS (mgS mgE)))) z), ?_⟩
          refine run_mono3 hw (fun t93 hw v g95 H Ho98 e96 z97 d94 => ?_)
          replace z := z.unlendO e96 z97
          replace d94 : OL K Ho v t93 g95 := OL.pu d94
          refine y_op ?_
          refine k_lst ?_
          refine y_cons ?_
          refine y_c ?_
          refine y_nil ?_
          refine k_lstk (K := K) (xs := ([(0 : Int)] : (List Int))) z (DqAll.cons (Dq.int _) DqAll.nil) (by show 1 ≤ sizeLine; decide) (fun H p99 ws100 z d101 => ?_)
          replace z : Zs ([(p99, HO.lst ws100)] ++ (g95 ++ (g_handed__0_ ++ (g_handed__1_ ++ (g_tab_ ++ amb))))) H Ho := z
          have o102 := OL.mk (p := p99) d101
          refine y_var rfl ?_
          refine y_rep z d101 hw.1 (fun H p103 ws104 z d105 => ?_)
          replace hw := (run_gd hw).2
          replace z : Zs ([(p103, HO.lst ws104)] ++ (g95 ++ (g_handed__0_ ++ (g_handed__1_ ++ (g_tab_ ++ amb))))) H Ho := z
          have o106 := OL.mk (p := p103) d105
          refine y_eqD (LV.dp (OL.lv d94 (mgS mg0)) z) (LV.dp (OL.lv o106 mg0) z) hw.1 ?_
          replace hw := (run_gd hw).2
          replace z : Zs (g_handed__0_ ++ (g_handed__1_ ++ (g_tab_ ++ amb))) _ _ := z.go [[(p103, HO.lst ws104)], g95, g_handed__0_, g_handed__1_, g_tab_] amb [2, 3, 4]
          exact (run_ret hw) _ _ ⟨_, (Same.refl _), z, rfl⟩
        · exact (run_ret hw) _ _ ⟨_, (Same.refl _), z, rfl⟩
        rintro t107 v H ⟨Ho, e, z, rfl⟩ hw
        replace d_counts_ := D.mo d_counts_ e
        replace t13 := TupAt.mo t13 e
        replace d_handed__0_ := OL.mo d_handed__0_ e
        replace d_handed__1_ := OL.mo d_handed__1_ e
        replace d_some_ := D.mo d_some_ e
        replace d_tab_ := OTab.mo d_tab_ e
        replace d_works_ := BC_Works.mo d_works_ e
        have es110 := es92.trans e
        replace z : Zs (g_tab_ ++ amb) _ _ := z.go [g_handed__0_, g_handed__1_, g_tab_] amb [2]
        exact (run_ret hw) _ _ _ _ es110 z (Dq.bl _) d_tab_
def sp_law_rows (K : PySem.W.Frag) (cl tb : Nat → Addr) : Sp := fun vs H Q E => ∃ (amb : Grp) (Ho : Hp) (v0 : V) (x0 : Int) (v1 : V) (x1 : Int), vs = [v0, v1] ∧ Zs amb H Ho ∧ Z.D K Ho v0 x0 ∧ Z.D K Ho v1 x1 ∧ (m_law_rows x0 x1).run fun r => ∀ v H' Ho', Same Ho Ho' → Zs amb H' Ho' → Z.D K Ho' v r → Q v H'
abbrev s_law_rows : Stmt := topS 44
theorem sc_law_rows : FnScope ["many", "last"] ["many", "last"] (defScope s_law_rows) := ⟨rfl, rfl, rfl, by decide +kernel, rfl, by decide +kernel, by decide +kernel⟩
theorem ok_law_rows {f : Addr} {fd : FuncData} (F : Fun K "_law_rows" "_law_rows" s_law_rows f fd) (m_int : mg "int" = none) :
    FnOk P w K mg base CX0 1 f fd ["many", "last"] (sp_law_rows K cl tb) := by
  refine F.ok sc_law_rows (fun vs H Q E h => ?_) (fun cdv A outer s H vs Q E hr h => ?_)
  · obtain ⟨amb, Ho, v_many_, many_, v_last_, last_, rfl, _⟩ := h
    rfl
  · obtain ⟨amb, Ho, v_many_, many_, v_last_, last_, rfl, z, d_many_, d_last_, hw⟩ := h
    refine ⟨_, pss_cons (ps_ret (pe_op (zop_catS (K := K) rfl) (pe_op op_rep (pe_lst (pa_cons (pe_tup (pa_cons (pe_str) (pa_cons (pe_str) (pa_cons (pe_int) (pa_nil))))) (pa_nil))) (pv 0)) (pe_op op_rep (pe_lst (pa_cons (pe_tup (pa_cons (pe_str) (pa_cons (pv 0) (pa_nil)))) (pa_nil))) (pe_callTy call_int1 (by rfl) m_int (by decide +kernel) (pa_cons (pe_cmpR (op_eq) (pv 1) (pe_int) (nomark _)) (pa_nil)))))) (pss_nil), ?_⟩
    obtain rfl := d_int d_many_
    obtain rfl := d_int d_last_
    refine y_ret ?_
    refine y_op ?_
    refine y_op ?_
    refine k_lst ?_
    refine y_cons ?_
    refine k_tup ?_
    refine y_cons ?_
    refine y_c ?_
    refine y_cons ?_
    refine y_c ?_
    refine y_cons ?_
    refine y_c ?_
    refine y_nil ?_
    refine k_tupk (K := K) (x := (⟨("load" : Str), ("b" : Str), (0 : Int)⟩ : (P3 Str Str Int))) z (by show 3 ≤ sizeLine; decide) _ rfl (DqAll.cons (Dq.str _) (DqAll.cons (Dq.str _) (DqAll.cons (Dq.int _) DqAll.nil))) (fun p H Ho e z d1 => ?_)
    have es2 := (Same.refl _).trans e
    have d3 := (show Z.D K Ho _ (toPy (⟨("load" : Str), ("b" : Str), (0 : Int)⟩ : (P3 Str Str Int))) from d1)
    refine y_nil ?_
    refine k_lstk (K := K) (xs := ([(toPy (⟨("load" : Str), ("b" : Str), (0 : Int)⟩ : (P3 Str Str Int)))] : (List PyData))) z (DqAll.cons d3 DqAll.nil) (by show 1 ≤ sizeLine; decide) (fun H p4 ws5 z d6 => ?_)
    replace z : Zs ([(p4, HO.lst ws5)] ++ amb) H Ho := z
    have o7 := OL.mk (p := p4) d6
    refine y_var rfl ?_
    refine y_rep z d6 hw.1 (fun H p8 ws9 z d10 => ?_)
    replace hw := (run_gd hw).2
    replace z : Zs ([(p8, HO.lst ws9)] ++ amb) H Ho := z
    have o11 := OL.mk (p := p8) d10
    refine y_op ?_
    refine k_lst ?_
    refine y_cons ?_
    refine k_tup ?_
    refine y_cons ?_
    refine y_c ?_
    refine y_cons ?_
    refine y_var rfl ?_
    refine y_nil ?_
    refine k_tupk (K := K) (x := (("go" : Str), many_)) z (by show 2 ≤ sizeLine; decide) _ rfl (DqAll.cons (Dq.str _) (DqAll.cons (Dq.int _) DqAll.nil)) (fun p H Ho e z d12 => ?_)
    replace o11 := OL.mo o11 e
    have es13 := es2.trans e
    have d14 := (show Z.D K Ho _ (toPy (("go" : Str), many_)) from d12)
    refine y_nil ?_
    refine k_lstk (K := K) (xs := ([(toPy (("go" : Str), many_))] : (List PyData))) z (DqAll.cons d14 DqAll.nil) (by show 1 ≤ sizeLine; decide) (fun H p15 ws16 z d17 => ?_)
    replace z : Zs ([(p15, HO.lst ws16)] ++ ([(p8, HO.lst ws9)] ++ amb)) H Ho := z
    have o18 := OL.mk (p := p15) d17
    refine y_cb ?_
    refine y_cons ?_
    refine y_op ?_
    refine y_var rfl ?_
    refine y_c ?_
    refine y_eqi ?_
    refine y_nil ?_
    refine Or.inr ⟨_, rfl, ?_⟩
    refine y_rep z d17 hw.1 (fun H p19 ws20 z d21 => ?_)
    replace hw := (run_gd hw).2
    replace z : Zs ([(p19, HO.lst ws20)] ++ ([(p8, HO.lst ws9)] ++ amb)) H Ho := z
    have o22 := OL.mk (p := p19) d21
    refine y_cat (OL.lv o11 (mgS mg0)) (OL.lv o22 mg0) z hw.1 (fun H p23 ws24 z d25 => ?_)
    replace hw := (run_gd hw).2
    replace z : Zs ([(p23, HO.lst ws24)] ++ ([(p19, HO.lst ws20)] ++ ([(p8, HO.lst ws9)] ++ amb))) H Ho := z
    have o26 := OL.mk (p := p23) d25
    refine l_fr o26 z (fun Ho e z d27 => ?_)
    have es28 := es13.trans e
    replace z : Zs amb _ _ := z.go [[(p19, HO.lst ws20)], [(p8, HO.lst ws9)]] amb []
    exact (run_ret hw) _ _ _ es28 z d27
def sp_law (K : PySem.W.Frag) (cl tb : Nat → Addr) : Sp := fun vs H Q E => ∃ (amb : Grp) (Ho : Hp) (v0 : V) (x0 : (List Int)) (v1 : V) (x1 : Unit) (g1 : Grp), vs = [v0] ∧ Zs (g1 ++ amb) H Ho ∧ LV K amb Ho v0 x0 ∧ OTab (tb 0) "_law_played.<locals>.<lambda>" K Ho v1 x1 g1 ∧ (m_law x0 x1).run fun r => ∀ v h1 H' Ho', Same Ho Ho' → Zs (h1 ++ amb) H' Ho' → Z.D K Ho' v r.1 → OTab (tb 0) "_law_played.<locals>.<lambda>" K Ho' v1 r.2 h1 → Q v H'
abbrev s_law : Stmt := topS 45
theorem sc_law : FnScope ["script", "reel", "k", "hands", "many", "works", "at", "counts"] ["script"] (defScope s_law) := ⟨rfl, rfl, rfl, by decide +kernel, rfl, by decide +kernel, by decide +kernel⟩
theorem ok_law {f : Addr} {fd : FuncData} (F : Fun K "law" "law" s_law f fd) {q_Works : Addr} {f_law_reel : Addr} {fd_law_reel : FuncData} (c_law_reel : Cal P w K mg base CX0 "_law_reel" ["script"] 1 (sp_law_reel K cl tb) f_law_reel fd_law_reel) {f_law_draw : Addr} {fd_law_draw : FuncData} (c_law_draw : Cal P w K mg base CX0 "_law_draw" ["reel", "many"] 1 (sp_law_draw K cl tb) f_law_draw fd_law_draw) {f_Works___init__ : Addr} {fd_Works___init__ : FuncData} (c_Works___init__ : KCal P w K mg base CX0 q_Works "Works" ["self", "program", "cells"] 8 (sp_Works___init__ K cl tb) f_Works___init__ fd_Works___init__) {f_law_rows : Addr} {fd_law_rows : FuncData} (c_law_rows : Cal P w K mg base CX0 "_law_rows" ["many", "last"] 1 (sp_law_rows K cl tb) f_law_rows fd_law_rows) {f_law_right : Addr} {fd_law_right : FuncData} (c_law_right : Cal P w K mg base CX0 "_law_right" ["works", "counts", "some", "hands"] 15 (sp_law_right K cl tb) f_law_right fd_law_right) {f_law_notes : Addr} {fd_law_notes : FuncData} (c_law_notes : Cal P w K mg base CX0 "_law_notes" ["reel", "counts"] 3 (sp_law_notes K cl tb) f_law_notes fd_law_notes) (bd_Works___init__ : Binds K fd_Works___init__ ["self", "program", "cells"] [Value.none]) (m_len : mg "len" = none) (m_min : mg "min" = none) (m_range : mg "range" = none) (cf_Works : CF K q_Works "Works" ns_Works) :
    FnOk P w K mg base CX0 16 f fd ["script"] (sp_law K cl tb) := by
  refine F.ok sc_law (fun vs H Q E h => ?_) (fun cdv A outer s H vs Q E hr h => ?_)
  · obtain ⟨amb, Ho, v_script_, script_, v_tab_, tab_, g_tab_, rfl, _⟩ := h
    rfl
  · obtain ⟨amb, Ho, v_script_, script_, v_tab_, tab_, g_tab_, rfl, z, d_script_, d_tab_, hw⟩ := h
    refine ⟨_, pss_cons (ps_set (i := 1) sc_law.nd rfl (Or.inr rfl) (pe_call c_law_reel.ok (hr.mono (by decide)) (by rfl) c_law_reel.g c_law_reel.kp c_law_reel.b .nil pass0 (pa_cons (pv 0) (pa_nil)))) (pss_cons (ps_for PassesOwn.never rfl (pi_range1 (by rfl) m_range (pa_cons (pe_op op_add (pe_int) (pe_callB (call_min2 rfl) (by rfl) m_min (by decide +kernel) (pa_cons (pe_callB (zlen (K := K) rfl) (by rfl) m_len (by decide +kernel) (pa_cons (pv 0) (pa_nil))) (pa_cons (pe_int) (pa_nil))))) (pa_nil))) (pg_name (i := 2) sc_law.nd rfl (Or.inl rfl)) (pss_cons (ps_set (i := 3) sc_law.nd rfl (Or.inl rfl) (pe_op op_add (pe_int) (pe_call c_law_draw.ok (hr.mono (by decide)) (by rfl) c_law_draw.g c_law_draw.kp c_law_draw.b .nil pass0 (pa_cons (pv 1) (pa_cons (pe_int) (pa_nil)))))) (pss_cons (ps_set (i := 4) sc_law.nd rfl (Or.inl rfl) (pv 3)) (pss_cons (ps_if (pt_cmpR (op_eq) (pe_call c_law_draw.ok (hr.mono (by decide)) (by rfl) c_law_draw.g c_law_draw.kp c_law_draw.b .nil pass0 (pa_cons (pv 1) (pa_cons (pe_int) (pa_nil)))) (pe_int) (nomark _)) (pss_cons (ps_set (i := 4) sc_law.nd rfl (Or.inl rfl) (pe_call c_law_draw.ok (hr.mono (by decide)) (by rfl) c_law_draw.g c_law_draw.kp c_law_draw.b .nil pass0 (pa_cons (pv 1) (pa_cons (pe_int) (pa_nil))))) (pss_nil)) (pss_nil)) (pss_cons (ps_set (i := 5) sc_law.nd rfl (Or.inl rfl) ((by exact (pe_makeSd (E := fun _ => E0) c_Works___init__.mk_ c_Works___init__.ok (hr.mono (by decide)) (by rfl) c_Works___init__.g bd_Works___init__ (show Vals [V.non] [Value.none] from .cons rfl .nil) (fun σ => passAt0 (E := fun _ => E0)) (pa_cons (pe_tup (pa_cons (pe_int) (pa_cons (pe_lc (own := [("at", 6)]) rfl sc_law.nd (pi_range1 (by rfl) m_range (pa_cons (pv 3) (pa_nil))) (blkOk_by (N := ["script", "reel", "k", "hands", "many", "works", "at", "counts"]) (sc := defScope s_law) (by decide +kernel)) (fun _ _ _ _ _ => pg_name (i := 6) sc_law.nd rfl (Or.inl rfl)) (fun _ _ _ _ _ => pts_nil) (fun _ _ _ _ _ => pe_call c_law_rows.ok (hr.mono (by decide)) (by rfl) c_law_rows.g c_law_rows.kp c_law_rows.b .nil pass0 (pa_cons (pe_call c_law_draw.ok (hr.mono (by decide)) (by rfl) c_law_draw.g c_law_draw.kp c_law_draw.b .nil pass0 (pa_cons (pv 1) (pa_cons (pe_int) (pa_nil)))) (pa_cons (pe_call c_law_draw.ok (hr.mono (by decide)) (by rfl) c_law_draw.g c_law_draw.kp c_law_draw.b .nil pass0 (pa_cons (pv 1) (pa_cons (pe_int) (pa_nil)))) (pa_nil))))) (pa_nil)))) (pa_nil)))))) (pss_cons (ps_setLc (i := 7) (own := [("at", 6)]) rfl sc_law.nd rfl rfl (sw_true rfl rfl rfl (by decide +kernel)) (pi_range1 (by rfl) m_range (pa_cons (pv 4) (pa_nil))) (blkOk_by (N := ["script", "reel", "k", "hands", "many", "works", "at", "counts"]) (sc := defScope s_law) (by decide +kernel)) (fun _ _ _ _ _ => pg_name (i := 6) sc_law.nd rfl (Or.inl rfl)) (fun _ _ _ _ _ => pts_nil) (fun _ _ _ _ _ => pe_call c_law_draw.ok (hr.mono (by decide)) (by rfl) c_law_draw.g c_law_draw.kp c_law_draw.b .nil pass0 (pa_cons (pv 1) (pa_cons (pe_int) (pa_nil))))) (pss_cons (ps_if (pt_not (pt_val (pe_call c_law_right.ok (hr.mono (by decide)) (by rfl) c_law_right.g c_law_right.kp c_law_right.b .nil pass0 (pa_cons (pv 5) (pa_cons (pv 7) (pa_cons (pe_call c_law_notes.ok (hr.mono (by decide)) (by rfl) c_law_notes.g c_law_notes.kp c_law_notes.b .nil pass0 (pa_cons (pv 1) (pa_cons (pv 7) (pa_nil)))) (pa_cons (pv 3) (pa_nil)))))))) (pss_cons (ps_ret (pe_bl)) (pss_nil)) (pss_nil)) (pss_nil)))))))) (pss_cons (ps_ret (pe_bl)) (pss_nil))), ?_⟩
    refine l_asg (fun v => [_, some v, _, _, _, _, _, _]) (fun _ => rfl) ?_
    refine y_call ?_
    refine y_cons ?_
    refine y_var rfl ?_
    refine y_nil ?_
    refine ⟨(g_tab_ ++ amb), _, _, _, rfl, z, (LV.sub d_script_ (mgS mgE)), ?_⟩
    refine run_mono3 hw (fun t1 hw v g3 H Ho e z d2 => ?_)
    replace d_script_ := LV.mo d_script_ e
    replace d_tab_ := OTab.mo d_tab_ e
    have es4 := (Same.refl _).trans e
    refine h_o hw z d2 (fun reel_ v_reel_ g_reel_ z d_reel_ hw => ?_)
    refine y_for ?_
    refine k_iR1 ?_
    refine y_cons ?_
    refine y_op ?_
    refine y_c ?_
    refine y_cb ?_
    refine y_cons ?_
    refine y_cb ?_
    refine y_cons ?_
    refine y_var rfl ?_
    refine y_nil ?_
    refine y_len (LV.sub d_script_ (mgS (mgS mgE))) z ?_
    refine y_cons ?_
    refine y_c ?_
    refine y_nil ?_
    refine ⟨_, _, rfl, ?_⟩
    refine y_i0 ?_
    refine y_nil ?_
    refine k_srcR1 (K := K) (Ho := Ho) hw.1 (fun J T => ?_)
    replace hw := (run_gd hw).2
    refine y_forC T hw (fun (s : (H4 (List Int) (List Int) Int Int) × Unit) (σ : L2.St) (H Ho : Hp) => ∃ (g_reel_ : Grp) (g_tab_ : Grp) (y_k_ : Option V) (y_hands_ : Option V) (y_many_ : Option V) (y_works_ : Option V) (y_counts_ : Option V), σ = [some v_script_, some v_reel_, y_k_, y_hands_, y_many_, y_works_, none, y_counts_] ∧ Zs (g_reel_ ++ (g_tab_ ++ amb)) H Ho ∧ OH K Ho v_reel_ s.1 g_reel_ ∧ OTab (tb 0) "_law_played.<locals>.<lambda>" K Ho v_tab_ s.2 g_tab_) ⟨_, _, _, _, _, _, _, rfl, z, d_reel_, d_tab_⟩ ?_ ?_ ?_ ?_
    · intro s σ H Ho hI
      obtain ⟨reel_, tab_⟩ := s
      obtain ⟨g_reel_, g_tab_, y_k_, y_hands_, y_many_, y_works_, y_counts_, rfl, z, d_reel_, d_tab_⟩ := hI
      exact ⟨_, z, mgN⟩
    · intro s σ H Ho H2 Ho2 hI e t
      obtain ⟨reel_, tab_⟩ := s
      obtain ⟨g_reel_, g_tab_, y_k_, y_hands_, y_many_, y_works_, y_counts_, rfl, z, d_reel_, d_tab_⟩ := hI
      exact ⟨_, _, _, _, _, _, _, rfl, t _ z, OH.mo d_reel_ e, OTab.mo d_tab_ e⟩
    · intro k_ v_k_ s σ H Ho N B e hI d_k_ hw
      obtain ⟨reel_, tab_⟩ := s
      obtain ⟨g_reel_, g_tab_, y_k_, y_hands_, y_many_, y_works_, y_counts_, rfl, z, d_reel_, d_tab_⟩ := hI
      have es5 := es4.trans e
      obtain rfl := d_int d_k_
      refine y_gname (σ' := [some v_script_, some v_reel_, some (V.int k_), y_hands_, y_many_, y_works_, none, y_counts_]) rfl ?_
      refine l_asg (fun v => [_, _, _, some v, _, _, _, _]) (fun _ => rfl) ?_
      refine y_op ?_
      refine y_c ?_
      refine y_call ?_
      refine y_cons ?_
      refine y_var rfl ?_
      refine y_cons ?_
      refine y_c ?_
      refine y_nil ?_
      refine ⟨(g_tab_ ++ amb), _, _, _, _, _, _, rfl, z, d_reel_, (Dq.int _), ?_⟩
      refine run_mono2 hw (fun t6 reel_ hw v g_reel_ H Ho e z d7 d_reel_ => ?_)
      replace d7 : Z.D K Ho v t6 := d7
      replace d_reel_ : OH K Ho v_reel_ reel_ g_reel_ := d_reel_
      replace d_tab_ := OTab.mo d_tab_ e
      have es9 := (Same.refl _).trans e
      first | obtain rfl := d_int d7 | cases d_int d7
      refine y_i0 ?_
      refine l_i hw (fun hands_ hw => ?_)
      refine l_asg (fun v => [_, _, _, _, some v, _, _, _]) (fun _ => rfl) ?_
      refine y_var rfl ?_
      refine l_i hw (fun many_ hw => ?_)
      refine y_ifS ?_
      refine y_test ?_
      refine y_op ?_
      refine y_call ?_
      refine y_cons ?_
      refine y_var rfl ?_
      refine y_cons ?_
      refine y_c ?_
      refine y_nil ?_
      refine ⟨(g_tab_ ++ amb), _, _, _, _, _, _, rfl, z, d_reel_, (Dq.int _), ?_⟩
      refine run_mono2 hw (fun t10 reel_ hw v g_reel_ H Ho e z d11 d_reel_ => ?_)
      replace d11 : Z.D K Ho v t10 := d11
      replace d_reel_ : OH K Ho v_reel_ reel_ g_reel_ := d_reel_
      replace d_tab_ := OTab.mo d_tab_ e
      have es13 := es9.trans e
      first | obtain rfl := d_int d11 | cases d_int d11
      refine y_c ?_
      refine y_eqi ?_
      refine ⟨_, rfl, ?_⟩
      refine w_ifJ hw (fun (s : (H4 (List Int) (List Int) Int Int) × Int) (σ : L2.St) (H : Hp) => ∃ Ho2, Same Ho Ho2 ∧ (fun (s : (H4 (List Int) (List Int) Int Int) × Int) (σ : L2.St) (H Ho : Hp) => ∃ (g_reel_ : Grp), σ = [some v_script_, some v_reel_, some (V.int k_), some (V.int hands_), some (V.int s.2), y_works_, none, y_counts_] ∧ Zs (g_reel_ ++ (g_tab_ ++ amb)) H Ho ∧ OH K Ho v_reel_ s.1 g_reel_) s σ H Ho2) (fun hb hw => ?_) (fun hb hw => ?_) ?_
      · refine l_asg (fun v => [_, _, _, _, some v, _, _, _]) (fun _ => rfl) ?_
        refine y_call ?_
        refine y_cons ?_
        refine y_var rfl ?_
        refine y_cons ?_
        refine y_c ?_
        refine y_nil ?_
        refine ⟨(g_tab_ ++ amb), _, _, _, _, _, _, rfl, z, d_reel_, (Dq.int _), ?_⟩
        refine run_mono2 hw (fun t14 reel_ hw v g_reel_ H Ho e z d15 d_reel_ => ?_)
        replace d15 : Z.D K Ho v t14 := d15
        replace d_reel_ : OH K Ho v_reel_ reel_ g_reel_ := d_reel_
        replace d_tab_ := OTab.mo d_tab_ e
        have es17 := (Same.refl _).trans e
        first | obtain rfl := d_int d15 | cases d_int d15
        refine l_i hw (fun many_ hw => ?_)
        exact (run_ret hw) _ _ ⟨_, es17, ⟨_, rfl, z, d_reel_⟩⟩
      · refine y_nxS ?_
        exact (run_ret hw) _ _ ⟨_, (Same.refl _), ⟨_, rfl, z, d_reel_⟩⟩
      rintro ⟨reel_, many_⟩ σ H ⟨Ho, e, g_reel_, rfl, z, d_reel_⟩ hw
      replace d_tab_ := OTab.mo d_tab_ e
      have es18 := es13.trans e
      refine l_asg (fun v => [_, _, _, _, _, some v, _, _]) (fun _ => rfl) ?_
      refine y_makeD ?_
      refine y_cons ?_
      refine k_tup ?_
      refine y_cons ?_
      refine y_c ?_
      refine y_cons ?_
      refine y_lc ?_
      refine k_iR1 ?_
      refine y_cons ?_
      refine y_var rfl ?_
      refine y_nil ?_
      refine k_srcR1 (K := K) (Ho := Ho) hw.1 (fun J T => ?_)
      replace hw := (run_gd hw).2
      refine y_lcS z T hw (fun (r19 : Addr × HO) (s : (H4 (List Int) (List Int) Int Int)) (H2 Ho2 : Hp) => ∃ (g_reel_ : Grp), OH K Ho2 v_reel_ s g_reel_ ∧ Zs ([r19] ++ (g_reel_ ++ (g_tab_ ++ amb))) H2 Ho2) (fun r H z => ⟨_, d_reel_, z⟩) ?_ ?_ ?_ ?_ ?_
      · rintro r s H Ho ⟨g_reel_, d_reel_, z⟩
        exact ⟨_, z, fun r m => mgN r m⟩
      · rintro r s H Ho H2 Ho2 ⟨g_reel_, d_reel_, z⟩ e t
        exact ⟨_, OH.mo d_reel_ e, t _ z⟩
      · rintro p o o' s H Ho hn ⟨g_reel_, d_reel_, z⟩
        exact ⟨_, d_reel_, Zs.put z hn⟩
      · intro r19 at_ v_at_ reel_ H Ho N N' e hI d_at_ hw
        obtain ⟨g_reel_, d_reel_, z⟩ := hI
        replace d_tab_ := OTab.mo d_tab_ e
        have es20 := es18.trans e
        obtain rfl := d_int d_at_
        refine y_gname (σ' := [some v_script_, some v_reel_, some (V.int k_), some (V.int hands_), some (V.int many_), y_works_, some (V.int at_), y_counts_]) rfl ?_
        refine ⟨rfl, ?_⟩
        refine y_yes (w_t ?_)
        refine y_call ?_
        refine y_cons ?_
        refine y_call ?_
        refine y_cons ?_
        refine y_var rfl ?_
        refine y_cons ?_
        refine y_c ?_
        refine y_nil ?_
        replace z : Zs (g_reel_ ++ ([r19] ++ (g_tab_ ++ amb))) _ _ := z.go [[r19], g_reel_, g_tab_] amb [1, 0, 2]
        refine ⟨([r19] ++ (g_tab_ ++ amb)), _, _, _, _, _, _, rfl, z, d_reel_, (Dq.int _), ?_⟩
        refine run_mono2 hw (fun t21 reel_ hw v g_reel_ H Ho e z d22 d_reel_ => ?_)
        replace d22 : Z.D K Ho v t21 := d22
        replace d_reel_ : OH K Ho v_reel_ reel_ g_reel_ := d_reel_
        replace d_tab_ := OTab.mo d_tab_ e
        have es24 := (Same.refl _).trans e
        first | obtain rfl := d_int d22 | cases d_int d22
        refine y_cons ?_
        refine y_call ?_
        refine y_cons ?_
        refine y_var rfl ?_
        refine y_cons ?_
        refine y_c ?_
        refine y_nil ?_
        refine ⟨([r19] ++ (g_tab_ ++ amb)), _, _, _, _, _, _, rfl, z, d_reel_, (Dq.int _), ?_⟩
        refine run_mono2 hw (fun t25 reel_ hw v g_reel_ H Ho e z d26 d_reel_ => ?_)
        replace d26 : Z.D K Ho v t25 := d26
        replace d_reel_ : OH K Ho v_reel_ reel_ g_reel_ := d_reel_
        replace d_tab_ := OTab.mo d_tab_ e
        have es28 := es24.trans e
        first | obtain rfl := d_int d26 | cases d_int d26
        refine y_nil ?_
        refine ⟨(g_reel_ ++ ([r19] ++ (g_tab_ ++ amb))), _, _, _, _, _, rfl, z, (Dq.int _), (Dq.int _), ?_⟩
        refine run_mono3 hw (fun t29 hw v H Ho e z d30 => ?_)
        replace d_reel_ := OH.mo d_reel_ e
        replace d_tab_ := OTab.mo d_tab_ e
        have es32 := es28.trans e
        replace z : Zs ([r19] ++ (g_reel_ ++ (g_tab_ ++ amb))) _ _ := z.go [g_reel_, [r19], g_tab_] amb [1, 0, 2]
        exact (run_ret hw) _ _ _ es32 ⟨_, d_reel_, z⟩ d30
      rintro t36 reel_ p33 ws34 H Ho e ⟨g_reel_, d_reel_, z⟩ d35 hw
      replace d_tab_ := OTab.mo d_tab_ e
      have es37 := es18.trans e
      replace z : Zs ([(p33, HO.lst ws34)] ++ (g_reel_ ++ (g_tab_ ++ amb))) H Ho := z
      have o38 := OL.mk (p := p33) d35
      refine y_nil ?_
      refine p_tupk z (fun p40 H Ho e z t39 => ?_)
      replace d_reel_ := OH.mo d_reel_ e
      replace d_tab_ := OTab.mo d_tab_ e
      replace o38 := OL.mo o38 e
      have es41 := es37.trans e
      refine y_nil ?_
      refine o_mk (ns := ns_Works) z (fun a dx H Ho e z => ?_)
      replace d_reel_ := OH.mo d_reel_ e
      replace d_tab_ := OTab.mo d_tab_ e
      replace t39 := TupAt.mo t39 e
      replace o38 := OL.mo o38 e
      have es42 := es41.trans e
      refine ⟨([(p33, HO.lst ws34)] ++ (g_reel_ ++ (g_tab_ ++ amb))), _, a, dx, _, _, _, _, _, rfl, z, cf_Works.at_, (LPG.of2 t39 (LLV.ofL o38 mg0)), (OVq.non (α := Int)), ?_⟩
      refine run_mono3 hw (fun t43 hw g45 H Ho e z d44 => ⟨rfl, ?_⟩)
      replace d_reel_ := OH.mo d_reel_ e
      replace d_tab_ := OTab.mo d_tab_ e
      have es46 := es42.trans e
      refine l_oG (P := OC_Works K Ho) hw z d44 (fun works_ v_works_ g_works_ z d_works_ hw => ?_)
      replace z : Zs (g_works_ ++ (g_reel_ ++ (g_tab_ ++ amb))) _ _ := z.go [g_works_, [(p33, HO.lst ws34)], g_reel_, g_tab_] amb [0, 2, 3]
      refine l_asg (fun v => [_, _, _, _, _, _, _, some v]) (fun _ => rfl) ?_
      refine y_lc ?_
      refine k_iR1 ?_
      refine y_cons ?_
      refine y_var rfl ?_
      refine y_nil ?_
      refine k_srcR1 (K := K) (Ho := Ho) hw.1 (fun J T => ?_)
      replace hw := (run_gd hw).2
      refine y_lcS z T hw (fun (r47 : Addr × HO) (s : (H4 (List Int) (List Int) Int Int)) (H2 Ho2 : Hp) => ∃ (g_reel_ : Grp), OH K Ho2 v_reel_ s g_reel_ ∧ Zs ([r47] ++ (g_works_ ++ (g_reel_ ++ (g_tab_ ++ amb)))) H2 Ho2) (fun r H z => ⟨_, d_reel_, z⟩) ?_ ?_ ?_ ?_ ?_
      · rintro r s H Ho ⟨g_reel_, d_reel_, z⟩
        exact ⟨_, z, fun r m => mgN r m⟩
      · rintro r s H Ho H2 Ho2 ⟨g_reel_, d_reel_, z⟩ e t
        exact ⟨_, OH.mo d_reel_ e, t _ z⟩
      · rintro p o o' s H Ho hn ⟨g_reel_, d_reel_, z⟩
        exact ⟨_, d_reel_, Zs.put z hn⟩
      · intro r47 at_ v_at_ reel_ H Ho N N' e hI d_at_ hw
        obtain ⟨g_reel_, d_reel_, z⟩ := hI
        replace d_tab_ := OTab.mo d_tab_ e
        replace d_works_ := OC_Works.mo d_works_ e
        have es48 := es46.trans e
        obtain rfl := d_int d_at_
        refine y_gname (σ' := [some v_script_, some v_reel_, some (V.int k_), some (V.int hands_), some (V.int many_), some v_works_, some (V.int at_), y_counts_]) rfl ?_
        refine ⟨rfl, ?_⟩
        refine y_yes (w_t ?_)
        refine y_call ?_
        refine y_cons ?_
        refine y_var rfl ?_
        refine y_cons ?_
        refine y_c ?_
        refine y_nil ?_
        replace z : Zs (g_reel_ ++ ([r47] ++ (g_works_ ++ (g_tab_ ++ amb)))) _ _ := z.go [[r47], g_works_, g_reel_, g_tab_] amb [2, 0, 1, 3]
        refine ⟨([r47] ++ (g_works_ ++ (g_tab_ ++ amb))), _, _, _, _, _, _, rfl, z, d_reel_, (Dq.int _), ?_⟩
        refine run_mono2 hw (fun t49 reel_ hw v g_reel_ H Ho e z d50 d_reel_ => ?_)
        replace d50 : Z.D K Ho v t49 := d50
        replace d_reel_ : OH K Ho v_reel_ reel_ g_reel_ := d_reel_
        replace d_tab_ := OTab.mo d_tab_ e
        replace d_works_ := OC_Works.mo d_works_ e
        have es52 := (Same.refl _).trans e
        first | obtain rfl := d_int d50 | cases d_int d50
        replace z : Zs ([r47] ++ (g_works_ ++ (g_reel_ ++ (g_tab_ ++ amb)))) _ _ := z.go [g_reel_, [r47], g_works_, g_tab_] amb [1, 2, 0, 3]
        exact (run_ret hw) _ _ _ es52 ⟨_, d_reel_, z⟩ (Dq.int _)
      rintro t56 reel_ p53 ws54 H Ho e ⟨g_reel_, d_reel_, z⟩ d55 hw
      replace d_tab_ := OTab.mo d_tab_ e
      replace d_works_ := OC_Works.mo d_works_ e
      have es57 := es46.trans e
      replace z : Zs ([(p53, HO.lst ws54)] ++ (g_works_ ++ (g_reel_ ++ (g_tab_ ++ amb)))) H Ho := z
      have o58 := OL.mk (p := p53) d55
      refine l_fr o58 z (fun Ho e z d59 => ?_)
      replace d_reel_ := OH.mo d_reel_ e
      replace d_tab_ := OTab.mo d_tab_ e
      replace d_works_ := OC_Works.mo d_works_ e
      have es60 := es57.trans e
      refine l_d (K := K) (Ho := Ho) hw d59 (fun counts_ v_counts_ d_counts_ hw => ?_)
      refine y_ifS ?_
      refine y_not ?_
      refine y_tB ?_
      refine y_call ?_
      refine y_cons ?_
      refine y_var rfl ?_
      refine y_cons ?_
      refine y_var rfl ?_
      refine y_cons ?_
      refine y_call ?_
      refine y_cons ?_
      refine y_var rfl ?_
      refine y_cons ?_
      refine y_var rfl ?_
      refine y_nil ?_
      replace z : Zs (g_reel_ ++ (g_works_ ++ (g_tab_ ++ amb))) _ _ := z.go [g_works_, g_reel_, g_tab_] amb [1, 0, 2]
      refine ⟨(g_works_ ++ (g_tab_ ++ amb)), _, _, _, _, _, _, rfl, z, d_reel_, (LV.of d_counts_), ?_⟩
      refine run_mono2 hw (fun t61 reel_ hw v g_reel_ H Ho e z d62 d_reel_ => ?_)
      replace d62 : Z.D K Ho v t61 := d62
      replace d_reel_ : OH K Ho v_reel_ reel_ g_reel_ := d_reel_
      replace d_counts_ := D.mo d_counts_ e
      replace d_tab_ := OTab.mo d_tab_ e
      replace d_works_ := OC_Works.mo d_works_ e
      have es64 := es60.trans e
      refine y_cons ?_
      refine y_var rfl ?_
      refine y_nil ?_
      replace z : Zs (g_tab_ ++ (g_reel_ ++ (g_works_ ++ amb))) _ _ := z.go [g_reel_, g_works_, g_tab_] amb [2, 0, 1]
      refine ⟨(g_reel_ ++ (g_works_ ++ amb)), _, _, _, _, _, _, _, _, _, _, _, _, rfl, z, ⟨_, d_works_, (mgS mg0)⟩, d_counts_, d62, (Dq.int _), d_tab_, ?_⟩
      refine run_mono2 hw (fun t65 tab_ hw v g_tab_ H Ho e z d66 d_tab_ => ?_)
      replace d66 : Z.D K Ho v t65 := d66
      replace d_tab_ : OTab (tb 0) "_law_played.<locals>.<lambda>" K Ho v_tab_ tab_ g_tab_ := d_tab_
      replace d_counts_ := D.mo d_counts_ e
      replace d_reel_ := OH.mo d_reel_ e
      replace d_works_ := OC_Works.mo d_works_ e
      have es68 := es64.trans e
      first | obtain rfl := d_bool d66 | cases d_bool d66
      refine ⟨_, rfl, ?_⟩
      refine y_cases hw (fun hb hw => ?_) (fun hb hw => ?_)
      · refine y_ret ?_
        refine y_c ?_
        replace z : Zs (g_tab_ ++ amb) _ _ := z.go [g_tab_, g_reel_, g_works_] amb [0]
        exact (ctl_rt (run_ret hw)) _ _ _ _ (es5.trans es68) z (Dq.bl _) d_tab_
      · refine y_nxS ?_
        replace z : Zs (g_reel_ ++ (g_tab_ ++ amb)) _ _ := z.go [g_tab_, g_reel_, g_works_] amb [1, 0]
        exact ctl_nx (run_ret hw) _ _ _ es68 ⟨_, _, _, _, _, _, _, rfl, z, d_reel_, d_tab_⟩
    intro s σ H Ho e hI hw
    obtain ⟨reel_, tab_⟩ := s
    obtain ⟨g_reel_, g_tab_, y_k_, y_hands_, y_many_, y_works_, y_counts_, rfl, z, d_reel_, d_tab_⟩ := hI
    have es69 := es4.trans e
    refine y_ret ?_
    refine y_c ?_
    replace z : Zs (g_tab_ ++ amb) _ _ := z.go [g_reel_, g_tab_] amb [1]
    exact (run_ret hw) _ _ _ _ es69 z (Dq.bl _) d_tab_
end
def spLaw (K : PySem.W.Frag) (tP_law_played : Addr) : Sp := fun vs H Q _ => ∃ (a : Addr) (ns : List Int), vs = [.ref a] ∧ SqL K H a (ns.map V.int) ∧ ns.length ≤ 63 ∧ H tP_law_played = some (.tbl #[]) ∧ ∀ H', Q (.bl true) H'
def clx (q_NoHand q_Over q_NoNote q_Held : Addr) : Nat → Addr
  | 0 => q_NoHand
  | 1 => q_Over
  | 2 => q_NoNote
  | 3 => q_Held
  | _ => q_NoHand
def tbx (tP_law_played : Addr) : Nat → Addr
  | 0 => tP_law_played
  | _ => tP_law_played
theorem all_mk {l : PySem.W.OpenLaw} {w : World} {K : PySem.W.Frag} {h : Heap} {mg : Str → Option Value} {fa : Addr} (X : K.In h) (G : h.Ns mainGlobals mg) (hfa : mg "law" = some (.ref fa))
    {q_NoHand : Addr}
    (h_gc_NoHand : PySem.W.nsIn K mainGlobals "NoHand" = some (some (.ref q_NoHand)))
    {q_Over : Addr}
    (h_gc_Over : PySem.W.nsIn K mainGlobals "Over" = some (some (.ref q_Over)))
    {q_NoNote : Addr}
    (h_gc_NoNote : PySem.W.nsIn K mainGlobals "NoNote" = some (some (.ref q_NoNote)))
    {q_Held : Addr}
    (h_gc_Held : PySem.W.nsIn K mainGlobals "Held" = some (some (.ref q_Held)))
    {q_Replay : Addr}
    (h_gc_Replay : PySem.W.nsIn K mainGlobals "Replay" = some (some (.ref q_Replay)))
    {q_Works : Addr}
    (h_gc_Works : PySem.W.nsIn K mainGlobals "Works" = some (some (.ref q_Works)))
    {q_Hand : Addr}
    (h_gc_Hand : PySem.W.nsIn K mainGlobals "Hand" = some (some (.ref q_Hand)))
    {q_NoCut : Addr}
    (h_gc_NoCut : PySem.W.nsIn K mainGlobals "NoCut" = some (some (.ref q_NoCut)))
    {q_NoteError : Addr}
    (h_gc_NoteError : PySem.W.nsIn K mainGlobals "NoteError" = some (some (.ref q_NoteError)))
    (h_pg_Replay : PySem.W.plainGet K q_Replay Str.empty = true)
    (h_dh_Replay : PySem.W.hasDictIn K q_Replay = true)
    (h_po_Replay : PySem.W.plainOver K q_Replay = true)
    (h_sa_Replay : PySem.W.findIn K (.ref q_Replay) "__setattr__" = some (some (.builtin "object.__setattr__")))
    (h_na_Replay_going : PySem.W.findIn K (.ref q_Replay) "going" = some none)
    (h_na_Replay_due : PySem.W.findIn K (.ref q_Replay) "due" = some none)
    (h_na_Replay_ties : PySem.W.findIn K (.ref q_Replay) "ties" = some none)
    (h_na_Replay_gone : PySem.W.findIn K (.ref q_Replay) "gone" = some none)
    (h_mk_Replay : PySem.W.makesIn K q_Replay = true)
    (h_kc_Replay : PySem.W.keepIn K (.ref q_Replay) = true)
    (h_pg_Works : PySem.W.plainGet K q_Works Str.empty = true)
    (h_dh_Works : PySem.W.hasDictIn K q_Works = true)
    (h_po_Works : PySem.W.plainOver K q_Works = true)
    (h_sa_Works : PySem.W.findIn K (.ref q_Works) "__setattr__" = some (some (.builtin "object.__setattr__")))
    (h_na_Works_shared : PySem.W.findIn K (.ref q_Works) "shared" = some none)
    (h_na_Works_team : PySem.W.findIn K (.ref q_Works) "team" = some none)
    (h_na_Works_past : PySem.W.findIn K (.ref q_Works) "past" = some none)
    (h_mk_Works : PySem.W.makesIn K q_Works = true)
    (h_kc_Works : PySem.W.keepIn K (.ref q_Works) = true)
    (h_pg_Hand : PySem.W.plainGet K q_Hand Str.empty = true)
    (h_dh_Hand : PySem.W.hasDictIn K q_Hand = true)
    (h_po_Hand : PySem.W.plainOver K q_Hand = true)
    (h_sa_Hand : PySem.W.findIn K (.ref q_Hand) "__setattr__" = some (some (.builtin "object.__setattr__")))
    (h_na_Hand_rows : PySem.W.findIn K (.ref q_Hand) "rows" = some none)
    (h_na_Hand_at : PySem.W.findIn K (.ref q_Hand) "at" = some none)
    (h_na_Hand_held : PySem.W.findIn K (.ref q_Hand) "held" = some none)
    (h_na_Hand_spoken : PySem.W.findIn K (.ref q_Hand) "spoken" = some none)
    (h_na_Hand_way : PySem.W.findIn K (.ref q_Hand) "way" = some none)
    (h_mk_Hand : PySem.W.makesIn K q_Hand = true)
    (h_kc_Hand : PySem.W.keepIn K (.ref q_Hand) = true)
    {f1 : Addr} {od1 an1 : Option Addr} {sl1 : Array (Option Value)} {oc1 kV1 dc1 pm1 cd1 ct1 : Value}
    (a1 : PySem.W.nsIn K mainGlobals "is_touch" = some (some (.ref f1)))
    (l1 : K.lookup f1 = some ⟨oc1, od1, .func (PySem.W.fnOf "is_touch" "is_touch" (defArgs s_is_touch) (defBody s_is_touch) (defScope s_is_touch) .none kV1 dc1 pm1 an1 cd1 ct1), sl1⟩)
    (c1 : PySem.W.codeIn K cd1 "is_touch" = true) (k1 : PySem.W.keepIn K (.ref f1) = true)
    {f2 : Addr} {od2 an2 : Option Addr} {sl2 : Array (Option Value)} {oc2 kV2 dc2 pm2 cd2 ct2 : Value}
    (a2 : PySem.W.nsIn K mainGlobals "need_record" = some (some (.ref f2)))
    (l2 : K.lookup f2 = some ⟨oc2, od2, .func (PySem.W.fnOf "need_record" "need_record" (defArgs s_need_record) (defBody s_need_record) (defScope s_need_record) .none kV2 dc2 pm2 an2 cd2 ct2), sl2⟩)
    (c2 : PySem.W.codeIn K cd2 "need_record" = true) (k2 : PySem.W.keepIn K (.ref f2) = true)
    {f3 : Addr} {od3 an3 : Option Addr} {sl3 : Array (Option Value)} {oc3 kV3 dc3 pm3 cd3 ct3 : Value}
    (a3 : PySem.W.findIn K (.ref q_Replay) "__init__" = some (some (.ref f3))) (i3 : PySem.W.isFn K (.ref f3) = true)
    (l3 : K.lookup f3 = some ⟨oc3, od3, .func (PySem.W.fnOf "__init__" "Replay.__init__" (defArgs s_Replay___init__) (defBody s_Replay___init__) (defScope s_Replay___init__) .none kV3 dc3 pm3 an3 cd3 ct3), sl3⟩)
    (c3 : PySem.W.codeIn K cd3 "Replay.__init__" = true) (k3 : PySem.W.keepIn K (.ref f3) = true)
    {f4 : Addr} {od4 an4 : Option Addr} {sl4 : Array (Option Value)} {oc4 kV4 dc4 pm4 cd4 ct4 : Value}
    (a4 : PySem.W.findIn K (.ref q_Replay) "is_over" = some (some (.ref f4))) (i4 : PySem.W.isFn K (.ref f4) = true)
    (l4 : K.lookup f4 = some ⟨oc4, od4, .func (PySem.W.fnOf "is_over" "Replay.is_over" (defArgs s_Replay_is_over) (defBody s_Replay_is_over) (defScope s_Replay_is_over) .none kV4 dc4 pm4 an4 cd4 ct4), sl4⟩)
    (c4 : PySem.W.codeIn K cd4 "Replay.is_over" = true) (k4 : PySem.W.keepIn K (.ref f4) = true)
    {f5 : Addr} {od5 an5 : Option Addr} {sl5 : Array (Option Value)} {oc5 kV5 dc5 pm5 cd5 ct5 : Value}
    (a5 : PySem.W.findIn K (.ref q_Replay) "holder" = some (some (.ref f5))) (i5 : PySem.W.isFn K (.ref f5) = true)
    (l5 : K.lookup f5 = some ⟨oc5, od5, .func (PySem.W.fnOf "holder" "Replay.holder" (defArgs s_Replay_holder) (defBody s_Replay_holder) (defScope s_Replay_holder) .none kV5 dc5 pm5 an5 cd5 ct5), sl5⟩)
    (c5 : PySem.W.codeIn K cd5 "Replay.holder" = true) (k5 : PySem.W.keepIn K (.ref f5) = true)
    {f6 : Addr} {od6 an6 : Option Addr} {sl6 : Array (Option Value)} {oc6 kV6 dc6 pm6 cd6 ct6 : Value}
    (a6 : PySem.W.findIn K (.ref q_Replay) "turn" = some (some (.ref f6))) (i6 : PySem.W.isFn K (.ref f6) = true)
    (l6 : K.lookup f6 = some ⟨oc6, od6, .func (PySem.W.fnOf "turn" "Replay.turn" (defArgs s_Replay_turn) (defBody s_Replay_turn) (defScope s_Replay_turn) .none kV6 dc6 pm6 an6 cd6 ct6), sl6⟩)
    (c6 : PySem.W.codeIn K cd6 "Replay.turn" = true) (k6 : PySem.W.keepIn K (.ref f6) = true)
    {f7 : Addr} {od7 an7 : Option Addr} {sl7 : Array (Option Value)} {oc7 kV7 dc7 pm7 cd7 ct7 : Value}
    (a7 : PySem.W.findIn K (.ref q_Replay) "free" = some (some (.ref f7))) (i7 : PySem.W.isFn K (.ref f7) = true)
    (l7 : K.lookup f7 = some ⟨oc7, od7, .func (PySem.W.fnOf "free" "Replay.free" (defArgs s_Replay_free) (defBody s_Replay_free) (defScope s_Replay_free) .none kV7 dc7 pm7 an7 cd7 ct7), sl7⟩)
    (c7 : PySem.W.codeIn K cd7 "Replay.free" = true) (k7 : PySem.W.keepIn K (.ref f7) = true)
    {f8 : Addr} {od8 an8 : Option Addr} {sl8 : Array (Option Value)} {oc8 kV8 dc8 pm8 cd8 ct8 : Value}
    (a8 : PySem.W.findIn K (.ref q_Replay) "counts" = some (some (.ref f8))) (i8 : PySem.W.isFn K (.ref f8) = true)
    (l8 : K.lookup f8 = some ⟨oc8, od8, .func (PySem.W.fnOf "counts" "Replay.counts" (defArgs s_Replay_counts) (defBody s_Replay_counts) (defScope s_Replay_counts) .none kV8 dc8 pm8 an8 cd8 ct8), sl8⟩)
    (c8 : PySem.W.codeIn K cd8 "Replay.counts" = true) (k8 : PySem.W.keepIn K (.ref f8) = true)
    {f9 : Addr} {od9 an9 : Option Addr} {sl9 : Array (Option Value)} {oc9 kV9 dc9 pm9 cd9 ct9 : Value}
    (a9 : PySem.W.findIn K (.ref q_Replay) "done" = some (some (.ref f9))) (i9 : PySem.W.isFn K (.ref f9) = true)
    (l9 : K.lookup f9 = some ⟨oc9, od9, .func (PySem.W.fnOf "done" "Replay.done" (defArgs s_Replay_done) (defBody s_Replay_done) (defScope s_Replay_done) .none kV9 dc9 pm9 an9 cd9 ct9), sl9⟩)
    (c9 : PySem.W.codeIn K cd9 "Replay.done" = true) (k9 : PySem.W.keepIn K (.ref f9) = true)
    {f10 : Addr} {od10 an10 : Option Addr} {sl10 : Array (Option Value)} {oc10 kV10 dc10 pm10 cd10 ct10 : Value}
    (a10 : PySem.W.findIn K (.ref q_Replay) "__len__" = some (some (.ref f10))) (i10 : PySem.W.isFn K (.ref f10) = true)
    (l10 : K.lookup f10 = some ⟨oc10, od10, .func (PySem.W.fnOf "__len__" "Replay.__len__" (defArgs s_Replay___len__) (defBody s_Replay___len__) (defScope s_Replay___len__) .none kV10 dc10 pm10 an10 cd10 ct10), sl10⟩)
    (c10 : PySem.W.codeIn K cd10 "Replay.__len__" = true) (k10 : PySem.W.keepIn K (.ref f10) = true)
    {f11 : Addr} {od11 an11 : Option Addr} {sl11 : Array (Option Value)} {oc11 kV11 dc11 pm11 cd11 ct11 : Value}
    (a11 : PySem.W.nsIn K mainGlobals "played" = some (some (.ref f11)))
    (l11 : K.lookup f11 = some ⟨oc11, od11, .func (PySem.W.fnOf "played" "played" (defArgs s_played) (defBody s_played) (defScope s_played) .none kV11 dc11 pm11 an11 cd11 ct11), sl11⟩)
    (c11 : PySem.W.codeIn K cd11 "played" = true) (k11 : PySem.W.keepIn K (.ref f11) = true)
    {f12 : Addr} {od12 an12 : Option Addr} {sl12 : Array (Option Value)} {oc12 kV12 dc12 pm12 cd12 ct12 : Value}
    (a12 : PySem.W.findIn K (.ref q_Hand) "__init__" = some (some (.ref f12))) (i12 : PySem.W.isFn K (.ref f12) = true)
    (l12 : K.lookup f12 = some ⟨oc12, od12, .func (PySem.W.fnOf "__init__" "Hand.__init__" (defArgs s_Hand___init__) (defBody s_Hand___init__) (defScope s_Hand___init__) .none kV12 dc12 pm12 an12 cd12 ct12), sl12⟩)
    (c12 : PySem.W.codeIn K cd12 "Hand.__init__" = true) (k12 : PySem.W.keepIn K (.ref f12) = true)
    {f13 : Addr} {od13 an13 : Option Addr} {sl13 : Array (Option Value)} {oc13 kV13 dc13 pm13 cd13 ct13 : Value}
    (a13 : PySem.W.nsIn K mainGlobals "worth_now" = some (some (.ref f13)))
    (l13 : K.lookup f13 = some ⟨oc13, od13, .func (PySem.W.fnOf "worth_now" "worth_now" (defArgs s_worth_now) (defBody s_worth_now) (defScope s_worth_now) .none kV13 dc13 pm13 an13 cd13 ct13), sl13⟩)
    (c13 : PySem.W.codeIn K cd13 "worth_now" = true) (k13 : PySem.W.keepIn K (.ref f13) = true)
    {f14 : Addr} {od14 an14 : Option Addr} {sl14 : Array (Option Value)} {oc14 kV14 dc14 pm14 cd14 ct14 : Value}
    (a14 : PySem.W.nsIn K mainGlobals "is_so" = some (some (.ref f14)))
    (l14 : K.lookup f14 = some ⟨oc14, od14, .func (PySem.W.fnOf "is_so" "is_so" (defArgs s_is_so) (defBody s_is_so) (defScope s_is_so) .none kV14 dc14 pm14 an14 cd14 ct14), sl14⟩)
    (c14 : PySem.W.codeIn K cd14 "is_so" = true) (k14 : PySem.W.keepIn K (.ref f14) = true)
    {f15 : Addr} {od15 an15 : Option Addr} {sl15 : Array (Option Value)} {oc15 kV15 dc15 pm15 cd15 ct15 : Value}
    (a15 : PySem.W.nsIn K mainGlobals "put_in" = some (some (.ref f15)))
    (l15 : K.lookup f15 = some ⟨oc15, od15, .func (PySem.W.fnOf "put_in" "put_in" (defArgs s_put_in) (defBody s_put_in) (defScope s_put_in) .none kV15 dc15 pm15 an15 cd15 ct15), sl15⟩)
    (c15 : PySem.W.codeIn K cd15 "put_in" = true) (k15 : PySem.W.keepIn K (.ref f15) = true)
    {f16 : Addr} {od16 an16 : Option Addr} {sl16 : Array (Option Value)} {oc16 kV16 dc16 pm16 cd16 ct16 : Value}
    (a16 : PySem.W.nsIn K mainGlobals "do_own" = some (some (.ref f16)))
    (l16 : K.lookup f16 = some ⟨oc16, od16, .func (PySem.W.fnOf "do_own" "do_own" (defArgs s_do_own) (defBody s_do_own) (defScope s_do_own) .none kV16 dc16 pm16 an16 cd16 ct16), sl16⟩)
    (c16 : PySem.W.codeIn K cd16 "do_own" = true) (k16 : PySem.W.keepIn K (.ref f16) = true)
    {f17 : Addr} {od17 an17 : Option Addr} {sl17 : Array (Option Value)} {oc17 kV17 dc17 pm17 cd17 ct17 : Value}
    (a17 : PySem.W.nsIn K mainGlobals "lead_on" = some (some (.ref f17)))
    (l17 : K.lookup f17 = some ⟨oc17, od17, .func (PySem.W.fnOf "lead_on" "lead_on" (defArgs s_lead_on) (defBody s_lead_on) (defScope s_lead_on) .none kV17 dc17 pm17 an17 cd17 ct17), sl17⟩)
    (c17 : PySem.W.codeIn K cd17 "lead_on" = true) (k17 : PySem.W.keepIn K (.ref f17) = true)
    {f18 : Addr} {od18 an18 : Option Addr} {sl18 : Array (Option Value)} {oc18 kV18 dc18 pm18 cd18 ct18 : Value}
    (a18 : PySem.W.nsIn K mainGlobals "do_touch" = some (some (.ref f18)))
    (l18 : K.lookup f18 = some ⟨oc18, od18, .func (PySem.W.fnOf "do_touch" "do_touch" (defArgs s_do_touch) (defBody s_do_touch) (defScope s_do_touch) .none kV18 dc18 pm18 an18 cd18 ct18), sl18⟩)
    (c18 : PySem.W.codeIn K cd18 "do_touch" = true) (k18 : PySem.W.keepIn K (.ref f18) = true)
    {f19 : Addr} {od19 an19 : Option Addr} {sl19 : Array (Option Value)} {oc19 kV19 dc19 pm19 cd19 ct19 : Value}
    (a19 : PySem.W.nsIn K mainGlobals "hand_like" = some (some (.ref f19)))
    (l19 : K.lookup f19 = some ⟨oc19, od19, .func (PySem.W.fnOf "hand_like" "hand_like" (defArgs s_hand_like) (defBody s_hand_like) (defScope s_hand_like) .none kV19 dc19 pm19 an19 cd19 ct19), sl19⟩)
    (c19 : PySem.W.codeIn K cd19 "hand_like" = true) (k19 : PySem.W.keepIn K (.ref f19) = true)
    {f20 : Addr} {od20 an20 : Option Addr} {sl20 : Array (Option Value)} {oc20 kV20 dc20 pm20 cd20 ct20 : Value}
    (a20 : PySem.W.nsIn K mainGlobals "hand_of" = some (some (.ref f20)))
    (l20 : K.lookup f20 = some ⟨oc20, od20, .func (PySem.W.fnOf "hand_of" "hand_of" (defArgs s_hand_of) (defBody s_hand_of) (defScope s_hand_of) .none kV20 dc20 pm20 an20 cd20 ct20), sl20⟩)
    (c20 : PySem.W.codeIn K cd20 "hand_of" = true) (k20 : PySem.W.keepIn K (.ref f20) = true)
    {f21 : Addr} {od21 an21 : Option Addr} {sl21 : Array (Option Value)} {oc21 kV21 dc21 pm21 cd21 ct21 : Value}
    (a21 : PySem.W.nsIn K mainGlobals "first_numbers" = some (some (.ref f21)))
    (l21 : K.lookup f21 = some ⟨oc21, od21, .func (PySem.W.fnOf "first_numbers" "first_numbers" (defArgs s_first_numbers) (defBody s_first_numbers) (defScope s_first_numbers) .none kV21 dc21 pm21 an21 cd21 ct21), sl21⟩)
    (c21 : PySem.W.codeIn K cd21 "first_numbers" = true) (k21 : PySem.W.keepIn K (.ref f21) = true)
    {f22 : Addr} {od22 an22 : Option Addr} {sl22 : Array (Option Value)} {oc22 kV22 dc22 pm22 cd22 ct22 : Value}
    (a22 : PySem.W.findIn K (.ref q_Works) "__init__" = some (some (.ref f22))) (i22 : PySem.W.isFn K (.ref f22) = true)
    {dT22 : Addr} {tc22 : Value} {td22 : Option Addr} {tn22 : Nat} {tsl22 : Array (Option Value)}
    (l22 : K.lookup f22 = some ⟨oc22, od22, .func (PySem.W.fnOf "__init__" "Works.__init__" (defArgs s_Works___init__) (defBody s_Works___init__) (defScope s_Works___init__) (.ref dT22) kV22 dc22 pm22 an22 cd22 ct22), sl22⟩)
    (t22 : K.lookup dT22 = some ⟨tc22, td22, .seq #[.none] tn22, tsl22⟩)
    (c22 : PySem.W.codeIn K cd22 "Works.__init__" = true) (k22 : PySem.W.keepIn K (.ref f22) = true)
    {f23 : Addr} {od23 an23 : Option Addr} {sl23 : Array (Option Value)} {oc23 kV23 dc23 pm23 cd23 ct23 : Value}
    (a23 : PySem.W.findIn K (.ref q_Works) "turn" = some (some (.ref f23))) (i23 : PySem.W.isFn K (.ref f23) = true)
    (l23 : K.lookup f23 = some ⟨oc23, od23, .func (PySem.W.fnOf "turn" "Works.turn" (defArgs s_Works_turn) (defBody s_Works_turn) (defScope s_Works_turn) .none kV23 dc23 pm23 an23 cd23 ct23), sl23⟩)
    (c23 : PySem.W.codeIn K cd23 "Works.turn" = true) (k23 : PySem.W.keepIn K (.ref f23) = true)
    {f24 : Addr} {od24 an24 : Option Addr} {sl24 : Array (Option Value)} {oc24 kV24 dc24 pm24 cd24 ct24 : Value}
    (a24 : PySem.W.findIn K (.ref q_Works) "how" = some (some (.ref f24))) (i24 : PySem.W.isFn K (.ref f24) = true)
    (l24 : K.lookup f24 = some ⟨oc24, od24, .func (PySem.W.fnOf "how" "Works.how" (defArgs s_Works_how) (defBody s_Works_how) (defScope s_Works_how) .none kV24 dc24 pm24 an24 cd24 ct24), sl24⟩)
    (c24 : PySem.W.codeIn K cd24 "Works.how" = true) (k24 : PySem.W.keepIn K (.ref f24) = true)
    {f25 : Addr} {od25 an25 : Option Addr} {sl25 : Array (Option Value)} {oc25 kV25 dc25 pm25 cd25 ct25 : Value}
    (a25 : PySem.W.findIn K (.ref q_Works) "counts" = some (some (.ref f25))) (i25 : PySem.W.isFn K (.ref f25) = true)
    (l25 : K.lookup f25 = some ⟨oc25, od25, .func (PySem.W.fnOf "counts" "Works.counts" (defArgs s_Works_counts) (defBody s_Works_counts) (defScope s_Works_counts) .none kV25 dc25 pm25 an25 cd25 ct25), sl25⟩)
    (c25 : PySem.W.codeIn K cd25 "Works.counts" = true) (k25 : PySem.W.keepIn K (.ref f25) = true)
    {f26 : Addr} {od26 an26 : Option Addr} {sl26 : Array (Option Value)} {oc26 kV26 dc26 pm26 cd26 ct26 : Value}
    (a26 : PySem.W.findIn K (.ref q_Works) "twin" = some (some (.ref f26))) (i26 : PySem.W.isFn K (.ref f26) = true)
    (l26 : K.lookup f26 = some ⟨oc26, od26, .func (PySem.W.fnOf "twin" "Works.twin" (defArgs s_Works_twin) (defBody s_Works_twin) (defScope s_Works_twin) .none kV26 dc26 pm26 an26 cd26 ct26), sl26⟩)
    (c26 : PySem.W.codeIn K cd26 "Works.twin" = true) (k26 : PySem.W.keepIn K (.ref f26) = true)
    {f27 : Addr} {od27 an27 : Option Addr} {sl27 : Array (Option Value)} {oc27 kV27 dc27 pm27 cd27 ct27 : Value}
    (a27 : PySem.W.nsIn K mainGlobals "_law_reel" = some (some (.ref f27)))
    (l27 : K.lookup f27 = some ⟨oc27, od27, .func (PySem.W.fnOf "_law_reel" "_law_reel" (defArgs s_law_reel) (defBody s_law_reel) (defScope s_law_reel) .none kV27 dc27 pm27 an27 cd27 ct27), sl27⟩)
    (c27 : PySem.W.codeIn K cd27 "_law_reel" = true) (k27 : PySem.W.keepIn K (.ref f27) = true)
    {f28 : Addr} {od28 an28 : Option Addr} {sl28 : Array (Option Value)} {oc28 kV28 dc28 pm28 cd28 ct28 : Value}
    (a28 : PySem.W.nsIn K mainGlobals "_law_draw" = some (some (.ref f28)))
    (l28 : K.lookup f28 = some ⟨oc28, od28, .func (PySem.W.fnOf "_law_draw" "_law_draw" (defArgs s_law_draw) (defBody s_law_draw) (defScope s_law_draw) .none kV28 dc28 pm28 an28 cd28 ct28), sl28⟩)
    (c28 : PySem.W.codeIn K cd28 "_law_draw" = true) (k28 : PySem.W.keepIn K (.ref f28) = true)
    {f29 : Addr} {od29 an29 : Option Addr} {sl29 : Array (Option Value)} {oc29 kV29 dc29 pm29 cd29 ct29 : Value}
    (a29 : PySem.W.nsIn K mainGlobals "_law_alike" = some (some (.ref f29)))
    (l29 : K.lookup f29 = some ⟨oc29, od29, .func (PySem.W.fnOf "_law_alike" "_law_alike" (defArgs s_law_alike) (defBody s_law_alike) (defScope s_law_alike) .none kV29 dc29 pm29 an29 cd29 ct29), sl29⟩)
    (c29 : PySem.W.codeIn K cd29 "_law_alike" = true) (k29 : PySem.W.keepIn K (.ref f29) = true)
    {f30 : Addr} {od30 an30 : Option Addr} {sl30 : Array (Option Value)} {oc30 kV30 dc30 pm30 cd30 ct30 : Value}
    (a30 : PySem.W.nsIn K mainGlobals "_law_note" = some (some (.ref f30)))
    (l30 : K.lookup f30 = some ⟨oc30, od30, .func (PySem.W.fnOf "_law_note" "_law_note" (defArgs s_law_note) (defBody s_law_note) (defScope s_law_note) .none kV30 dc30 pm30 an30 cd30 ct30), sl30⟩)
    (c30 : PySem.W.codeIn K cd30 "_law_note" = true) (k30 : PySem.W.keepIn K (.ref f30) = true)
    {f31 : Addr} {od31 an31 : Option Addr} {sl31 : Array (Option Value)} {oc31 kV31 dc31 pm31 cd31 ct31 : Value}
    (a31 : PySem.W.nsIn K mainGlobals "_law_other" = some (some (.ref f31)))
    (l31 : K.lookup f31 = some ⟨oc31, od31, .func (PySem.W.fnOf "_law_other" "_law_other" (defArgs s_law_other) (defBody s_law_other) (defScope s_law_other) .none kV31 dc31 pm31 an31 cd31 ct31), sl31⟩)
    (c31 : PySem.W.codeIn K cd31 "_law_other" = true) (k31 : PySem.W.keepIn K (.ref f31) = true)
    {f32 : Addr} {od32 an32 : Option Addr} {sl32 : Array (Option Value)} {oc32 kV32 dc32 pm32 cd32 ct32 : Value}
    (a32 : PySem.W.nsIn K mainGlobals "_law_notes" = some (some (.ref f32)))
    (l32 : K.lookup f32 = some ⟨oc32, od32, .func (PySem.W.fnOf "_law_notes" "_law_notes" (defArgs s_law_notes) (defBody s_law_notes) (defScope s_law_notes) .none kV32 dc32 pm32 an32 cd32 ct32), sl32⟩)
    (c32 : PySem.W.codeIn K cd32 "_law_notes" = true) (k32 : PySem.W.keepIn K (.ref f32) = true)
    {f33 : Addr} {od33 an33 : Option Addr} {sl33 : Array (Option Value)} {oc33 kV33 dc33 pm33 cd33 ct33 : Value}
    (a33 : PySem.W.nsIn K mainGlobals "_law_there" = some (some (.ref f33)))
    (l33 : K.lookup f33 = some ⟨oc33, od33, .func (PySem.W.fnOf "_law_there" "_law_there" (defArgs s_law_there) (defBody s_law_there) (defScope s_law_there) .none kV33 dc33 pm33 an33 cd33 ct33), sl33⟩)
    (c33 : PySem.W.codeIn K cd33 "_law_there" = true) (k33 : PySem.W.keepIn K (.ref f33) = true)
    {f34 : Addr} {od34 an34 : Option Addr} {sl34 : Array (Option Value)} {oc34 kV34 dc34 pm34 cd34 ct34 : Value}
    (a34 : PySem.W.nsIn K mainGlobals "_law_due" = some (some (.ref f34)))
    (l34 : K.lookup f34 = some ⟨oc34, od34, .func (PySem.W.fnOf "_law_due" "_law_due" (defArgs s_law_due) (defBody s_law_due) (defScope s_law_due) .none kV34 dc34 pm34 an34 cd34 ct34), sl34⟩)
    (c34 : PySem.W.codeIn K cd34 "_law_due" = true) (k34 : PySem.W.keepIn K (.ref f34) = true)
    {f35 : Addr} {od35 an35 : Option Addr} {sl35 : Array (Option Value)} {oc35 kV35 dc35 pm35 cd35 ct35 : Value}
    (a35 : PySem.W.nsIn K mainGlobals "_law_kind" = some (some (.ref f35)))
    (l35 : K.lookup f35 = some ⟨oc35, od35, .func (PySem.W.fnOf "_law_kind" "_law_kind" (defArgs s_law_kind) (defBody s_law_kind) (defScope s_law_kind) .none kV35 dc35 pm35 an35 cd35 ct35), sl35⟩)
    (c35 : PySem.W.codeIn K cd35 "_law_kind" = true) (k35 : PySem.W.keepIn K (.ref f35) = true)
    {f36 : Addr} {od36 an36 : Option Addr} {sl36 : Array (Option Value)} {oc36 kV36 dc36 pm36 cd36 ct36 : Value}
    (a36 : PySem.W.nsIn K mainGlobals "_law_made" = some (some (.ref f36)))
    (l36 : K.lookup f36 = some ⟨oc36, od36, .func (PySem.W.fnOf "_law_made" "_law_made" (defArgs s_law_made) (defBody s_law_made) (defScope s_law_made) .none kV36 dc36 pm36 an36 cd36 ct36), sl36⟩)
    (c36 : PySem.W.codeIn K cd36 "_law_made" = true) (k36 : PySem.W.keepIn K (.ref f36) = true)
    {f37 : Addr} {od37 an37 : Option Addr} {sl37 : Array (Option Value)} {oc37 kV37 dc37 pm37 cd37 ct37 : Value}
    (a37 : PySem.W.nsIn K mainGlobals "_law_asked" = some (some (.ref f37)))
    (l37 : K.lookup f37 = some ⟨oc37, od37, .func (PySem.W.fnOf "_law_asked" "_law_asked" (defArgs s_law_asked) (defBody s_law_asked) (defScope s_law_asked) .none kV37 dc37 pm37 an37 cd37 ct37), sl37⟩)
    (c37 : PySem.W.codeIn K cd37 "_law_asked" = true) (k37 : PySem.W.keepIn K (.ref f37) = true)
    {f38 : Addr} {od38 an38 : Option Addr} {sl38 : Array (Option Value)} {oc38 kV38 dc38 pm38 ct38 : Value}
    (a38 : PySem.W.nsIn K mainGlobals "_law_played" = some (some (.ref f38)))
    {tc_law_played tP_law_played : Addr}
    (l38 : K.lookup f38 = some ⟨oc38, od38, .func (PySem.W.fnOf "_law_played" "_law_played" (defArgs s_law_played) (defBody s_law_played) (defScope s_law_played) .none kV38 dc38 pm38 an38 (.ref tc_law_played) ct38), sl38⟩)
    (c38 : PySem.W.codeIn K (.ref tc_law_played) "_law_played" = true) (k38 : PySem.W.keepIn K (.ref f38) = true)
    {f39 : Addr} {od39 an39 : Option Addr} {sl39 : Array (Option Value)} {oc39 kV39 dc39 pm39 cd39 ct39 : Value}
    (a39 : PySem.W.nsIn K mainGlobals "_law_right" = some (some (.ref f39)))
    (l39 : K.lookup f39 = some ⟨oc39, od39, .func (PySem.W.fnOf "_law_right" "_law_right" (defArgs s_law_right) (defBody s_law_right) (defScope s_law_right) .none kV39 dc39 pm39 an39 cd39 ct39), sl39⟩)
    (c39 : PySem.W.codeIn K cd39 "_law_right" = true) (k39 : PySem.W.keepIn K (.ref f39) = true)
    {f40 : Addr} {od40 an40 : Option Addr} {sl40 : Array (Option Value)} {oc40 kV40 dc40 pm40 cd40 ct40 : Value}
    (a40 : PySem.W.nsIn K mainGlobals "_law_rows" = some (some (.ref f40)))
    (l40 : K.lookup f40 = some ⟨oc40, od40, .func (PySem.W.fnOf "_law_rows" "_law_rows" (defArgs s_law_rows) (defBody s_law_rows) (defScope s_law_rows) .none kV40 dc40 pm40 an40 cd40 ct40), sl40⟩)
    (c40 : PySem.W.codeIn K cd40 "_law_rows" = true) (k40 : PySem.W.keepIn K (.ref f40) = true)
    {f41 : Addr} {od41 an41 : Option Addr} {sl41 : Array (Option Value)} {oc41 kV41 dc41 pm41 cd41 ct41 : Value}
    (a41 : PySem.W.nsIn K mainGlobals "law" = some (some (.ref f41)))
    (l41 : K.lookup f41 = some ⟨oc41, od41, .func (PySem.W.fnOf "law" "law" (defArgs s_law) (defBody s_law) (defScope s_law) .none kV41 dc41 pm41 an41 cd41 ct41), sl41⟩)
    (c41 : PySem.W.codeIn K cd41 "law" = true) (k41 : PySem.W.keepIn K (.ref f41) = true)
    {to_law_played : Option Addr} {tv_law_played : Array Value} {ts_law_played : Array (Option Value)} (tl_law_played : K.lookup tc_law_played = some ⟨.type "code", to_law_played, .fields tv_law_played, ts_law_played⟩) (tw_law_played : (tv_law_played[11]? : Option Value) = some (.ref tP_law_played)) (th_law_played : PySem.W.codeHdIn K tc_law_played tP_law_played = true) (tn_law_played : K.lookup tP_law_played = none) (tt_law_played : h.get? tP_law_played = some { cls := .none, data := .fields #[] })
    (z_len : PySem.W.nsIn K mainGlobals "len" = some none)
    (z_list : PySem.W.nsIn K mainGlobals "list" = some none)
    (z_min : PySem.W.nsIn K mainGlobals "min" = some none)
    (z_range : PySem.W.nsIn K mainGlobals "range" = some none)
    (z_sum : PySem.W.nsIn K mainGlobals "sum" = some none)
    (z_int : PySem.W.nsIn K mainGlobals "int" = some none)
    (z_isinstance : PySem.W.nsIn K mainGlobals "isinstance" = some none)
    (z_tuple : PySem.W.nsIn K mainGlobals "tuple" = some none)
    (z_zip : PySem.W.nsIn K mainGlobals "zip" = some none)
    (z_all : PySem.W.nsIn K mainGlobals "all" = some none)
    (z_bool : PySem.W.nsIn K mainGlobals "bool" = some none)
    (z_str : PySem.W.nsIn K mainGlobals "str" = some none)
    (z_ValueError : PySem.W.nsIn K mainGlobals "ValueError" = some none)
    {tk_LETTERS : Tok} {x_LETTERS : Str} (g_LETTERS : PySem.W.nsIn K mainGlobals "LETTERS" = some (some (.str x_LETTERS tk_LETTERS)))
    (e_LETTERS : x_LETTERS = ("abcdefgh" : Str))
    {tk_ROUND : Tok} (g_ROUND : PySem.W.nsIn K mainGlobals "ROUND" = some (some (.int 1000 tk_ROUND)))
    {tk_MOST_OWN : Tok} (g_MOST_OWN : PySem.W.nsIn K mainGlobals "MOST_OWN" = some (some (.int 60 tk_MOST_OWN)))
    {fi_Held : Addr} {od_Held an_Held : Option Addr} {sl_Held : Array (Option Value)} {oc_Held kV_Held dc_Held pm_Held cd_Held ct_Held : Value}
    {nm_Held qn_Held : Str} {N_Held : Addr} {bs_Held bm_Held : List Value} {sn_Held : List Str} {su_Held : List Value} {ab_Held : Bool} {co_Held : Option Bool} {dd_Held : Option Addr} {s0_Held s1_Held s2_Held s3_Held s5_Held : Option Value}
    (h_lk_Held : K.lookup q_Held = some (excClassObj nm_Held qn_Held q_Held N_Held bs_Held bm_Held true sn_Held su_Held ab_Held co_Held dd_Held s0_Held s1_Held s2_Held s3_Held s5_Held "ValueError.__new__"))
    (h_rf_Held : PySem.HandSPX.refsVE bm_Held = true)
    (h_sa_Held : PySem.W.findIn K (.ref q_Held) "__setattr__" = some (some (.builtin "object.__setattr__")))
    (h_kk_Held : PySem.W.keepIn K (.ref q_Held) = true)
    (h_fn_Held : PySem.W.findIn K (.ref q_Held) "note" = some none)
    (h_iC_Held : PySem.W.findIn K (.ref q_Held) "__init__" = some (some (.ref fi_Held)))
    (h_tI_Held : PySem.W.typeIn K (.ref fi_Held) = some (.type "function"))
    (h_il_Held : K.lookup fi_Held = some ⟨oc_Held, od_Held, .func (PySem.W.fnOf "__init__" "Held.__init__" (defArgs s_Held___init__) (defBody s_Held___init__) (defScope s_Held___init__) .none kV_Held dc_Held pm_Held an_Held cd_Held ct_Held), sl_Held⟩)
    (h_ic_Held : PySem.W.codeIn K cd_Held "Held.__init__" = true)
    (h_ik_Held : PySem.W.keepIn K (.ref fi_Held) = true)
    (h_ng_NoteError : PySem.W.specialIn K (.ref q_NoteError) "__getattribute__" = some (some (.builtin "type.__getattribute__")))
    (h_nr_NoteError : PySem.W.readsIn K q_NoteError (.type "type") = true)
    (h_nf_NoteError : PySem.W.findCls K (.ref q_NoteError) (.type "type") "__init__" = some (.val (.builtin "ValueError.__init__")))
    (h_xx_NoNote : PySem.W.excIn K q_NoNote [.type "ValueError", .type "Exception", .type "BaseException", .type "object"] "ValueError.__new__" = true)
    (h_kk_NoNote : PySem.W.keepIn K (.ref q_NoNote) = true)
    (h_xx_NoHand : PySem.W.excIn K q_NoHand [.type "ValueError", .type "Exception", .type "BaseException", .type "object"] "ValueError.__new__" = true)
    (h_kk_NoHand : PySem.W.keepIn K (.ref q_NoHand) = true)
    (h_xx_Over : PySem.W.excIn K q_Over [.type "ValueError", .type "Exception", .type "BaseException", .type "object"] "ValueError.__new__" = true)
    (h_kk_Over : PySem.W.keepIn K (.ref q_Over) = true)
    (h_ga_NoHand : PySem.W.findIn K (.ref q_NoHand) "__getattribute__" = some (some (.builtin "BaseException.__getattribute__")))
    (h_gg_NoHand : PySem.W.findIn K (.ref q_NoHand) "__getattr__" = some none)
    (h_cc_NoHand : PySem.W.findIn K (.ref q_NoHand) "__class__" = some (some (.builtin "object.__class__")))
    (h_mo_NoHand : PySem.W.mroIn K q_NoHand (.type "object") = some true)
    (h_ga_Over : PySem.W.findIn K (.ref q_Over) "__getattribute__" = some (some (.builtin "BaseException.__getattribute__")))
    (h_gg_Over : PySem.W.findIn K (.ref q_Over) "__getattr__" = some none)
    (h_cc_Over : PySem.W.findIn K (.ref q_Over) "__class__" = some (some (.builtin "object.__class__")))
    (h_mo_Over : PySem.W.mroIn K q_Over (.type "object") = some true)
    (h_ga_NoNote : PySem.W.findIn K (.ref q_NoNote) "__getattribute__" = some (some (.builtin "BaseException.__getattribute__")))
    (h_gg_NoNote : PySem.W.findIn K (.ref q_NoNote) "__getattr__" = some none)
    (h_cc_NoNote : PySem.W.findIn K (.ref q_NoNote) "__class__" = some (some (.builtin "object.__class__")))
    (h_mo_NoNote : PySem.W.mroIn K q_NoNote (.type "object") = some true)
    (h_ga_Held : PySem.W.findIn K (.ref q_Held) "__getattribute__" = some (some (.builtin "BaseException.__getattribute__")))
    (h_gg_Held : PySem.W.findIn K (.ref q_Held) "__getattr__" = some none)
    (h_cc_Held : PySem.W.findIn K (.ref q_Held) "__class__" = some (some (.builtin "object.__class__")))
    (h_mo_Held : PySem.W.mroIn K q_Held (.type "object") = some true)
    (h_sn : PySem.W.specialIn K (.builtin "object.__class__") "__get__" = some (some (.builtin "getset_descriptor.__get__")))
    (h_tk : PySem.W.takesIn K (.builtin "object.__class__") = some true)
    (h_bb_Held : PySem.W.subIn K (.ref q_Held) (.type "BaseException") = some true)
    (h_bb_NoHand : PySem.W.subIn K (.ref q_NoHand) (.type "BaseException") = some true)
    (h_bb_NoNote : PySem.W.subIn K (.ref q_NoNote) (.type "BaseException") = some true)
    (h_bb_NoteError : PySem.W.subIn K (.ref q_NoteError) (.type "BaseException") = some true)
    (h_bb_Over : PySem.W.subIn K (.ref q_Over) (.type "BaseException") = some true)
    (h_hd_Held : PySem.W.hasDictIn K q_Held = true)
    (h_hd_NoHand : PySem.W.hasDictIn K q_NoHand = true)
    (h_hd_NoNote : PySem.W.hasDictIn K q_NoNote = true)
    (h_hd_NoteError : PySem.W.hasDictIn K q_NoteError = true)
    (h_hd_Over : PySem.W.hasDictIn K q_Over = true)
    (h_tt_Held : PySem.W.typeIn K (.ref q_Held) = some (.type "type"))
    (h_tt_NoHand : PySem.W.typeIn K (.ref q_NoHand) = some (.type "type"))
    (h_tt_NoNote : PySem.W.typeIn K (.ref q_NoNote) = some (.type "type"))
    (h_tt_NoteError : PySem.W.typeIn K (.ref q_NoteError) = some (.type "type"))
    (h_tt_Over : PySem.W.typeIn K (.ref q_Over) = some (.type "type"))
    (h_kitT_NoHand_ValueError : PySem.W.kitOne K (.ref q_NoHand) (.type "ValueError") = some true)
    (h_kitT_Over_ValueError : PySem.W.kitOne K (.ref q_Over) (.type "ValueError") = some true)
    (h_kitT_NoNote_ValueError : PySem.W.kitOne K (.ref q_NoNote) (.type "ValueError") = some true)
    (h_kitT_Held_ValueError : PySem.W.kitOne K (.ref q_Held) (.type "ValueError") = some true)
    (h_kit_NoHand_Held : PySem.W.kitOne K (.ref q_NoHand) (.ref q_Held) = some false)
    (h_kit_Over_Held : PySem.W.kitOne K (.ref q_Over) (.ref q_Held) = some false)
    (h_kit_NoNote_Held : PySem.W.kitOne K (.ref q_NoNote) (.ref q_Held) = some false)
    (h_kit_Held_Held : PySem.W.kitOne K (.ref q_Held) (.ref q_Held) = some true)
    (h_kit_NoHand_NoCut : PySem.W.kitOne K (.ref q_NoHand) (.ref q_NoCut) = some false)
    (h_kit_Over_NoCut : PySem.W.kitOne K (.ref q_Over) (.ref q_NoCut) = some false)
    (h_kit_NoNote_NoCut : PySem.W.kitOne K (.ref q_NoNote) (.ref q_NoCut) = some false)
    (h_kit_Held_NoCut : PySem.W.kitOne K (.ref q_Held) (.ref q_NoCut) = some false)
    (h_kit_NoHand_Over : PySem.W.kitOne K (.ref q_NoHand) (.ref q_Over) = some false)
    (h_kit_Over_Over : PySem.W.kitOne K (.ref q_Over) (.ref q_Over) = some true)
    (h_kit_NoNote_Over : PySem.W.kitOne K (.ref q_NoNote) (.ref q_Over) = some false)
    (h_kit_Held_Over : PySem.W.kitOne K (.ref q_Held) (.ref q_Over) = some false)
    (h_kit_NoHand_NoNote : PySem.W.kitOne K (.ref q_NoHand) (.ref q_NoNote) = some false)
    (h_kit_Over_NoNote : PySem.W.kitOne K (.ref q_Over) (.ref q_NoNote) = some false)
    (h_kit_NoNote_NoNote : PySem.W.kitOne K (.ref q_NoNote) (.ref q_NoNote) = some true)
    (h_kit_Held_NoNote : PySem.W.kitOne K (.ref q_Held) (.ref q_NoNote) = some false)
    (h_kit_NoHand_NoHand : PySem.W.kitOne K (.ref q_NoHand) (.ref q_NoHand) = some true)
    (h_kit_Over_NoHand : PySem.W.kitOne K (.ref q_Over) (.ref q_NoHand) = some false)
    (h_kit_NoNote_NoHand : PySem.W.kitOne K (.ref q_NoNote) (.ref q_NoHand) = some false)
    (h_kit_Held_NoHand : PySem.W.kitOne K (.ref q_Held) (.ref q_NoHand) = some false)
    (h_su_NoHand_NoteError : PySem.W.subIn K (.ref q_NoHand) (.ref q_NoteError) = some true)
    (h_su_Over_NoteError : PySem.W.subIn K (.ref q_Over) (.ref q_NoteError) = some true)
    (h_su_NoNote_NoteError : PySem.W.subIn K (.ref q_NoNote) (.ref q_NoteError) = some true)
    (h_su_Held_NoteError : PySem.W.subIn K (.ref q_Held) (.ref q_NoteError) = some true) :
    LamX.LawAtS l w K CX0 16 63 "script" mg fa h := by
  have e := hfa.symm.trans (PySem.W.mg_of X G a41)
  cases e
  refine ⟨PySem.W.fnOf "law" "law" (defArgs s_law) (defBody s_law) (defScope s_law) .none kV41 dc41 pm41 an41 cd41 ct41, [(tc_law_played, tP_law_played)], spLaw K tP_law_played, ?_, ?_, ?_, fun s v => .of_eq rfl, ?_, fun base _ _ hTB => ?_⟩
  · intro p hp
    simp only [List.mem_cons, List.not_mem_nil, or_false] at hp
    subst hp
    · exact tt_law_played
  · intro p hp
    simp only [List.mem_cons, List.not_mem_nil, or_false] at hp
    subst hp
    · exact tn_law_played
  · intro p hp
    simp only [List.mem_cons, List.not_mem_nil, or_false] at hp
    subst hp
    · exact PySem.W.codeHd_of_K X th_law_played
  · intro H a ns hl _ hT hS
    exact ⟨a, ns, rfl, hS, hl, hT (tc_law_played, tP_law_played) (by simp), fun _ => rfl⟩
  have xx_NoNote : PySem.W.excIn K ((clx q_NoHand q_Over q_NoNote q_Held) 2) [.type "ValueError", .type "Exception", .type "BaseException", .type "object"] "ValueError.__new__" = true := h_xx_NoNote
  have gc_NoNote : mg "NoNote" = some (.ref ((clx q_NoHand q_Over q_NoNote q_Held) 2)) := PySem.W.mg_of X G h_gc_NoNote
  have kk_NoNote : PySem.W.keepIn K (.ref ((clx q_NoHand q_Over q_NoNote q_Held) 2)) = true := h_kk_NoNote
  have bb_NoNote : PySem.W.subIn K (.ref ((clx q_NoHand q_Over q_NoNote q_Held) 2)) (.type "BaseException") = some true := h_bb_NoNote
  have tt_NoNote : PySem.W.typeIn K (.ref ((clx q_NoHand q_Over q_NoNote q_Held) 2)) = some (.type "type") := h_tt_NoNote
  have cf_Replay : CF K q_Replay "Replay" ns_Replay := ⟨h_gc_Replay, ⟨h_pg_Replay, h_dh_Replay, h_po_Replay, h_sa_Replay⟩, (by unfold ns_Replay NoAttr; exact List.forall_mem_cons.mpr ⟨h_na_Replay_going, List.forall_mem_cons.mpr ⟨h_na_Replay_due, List.forall_mem_cons.mpr ⟨h_na_Replay_ties, List.forall_mem_cons.mpr ⟨h_na_Replay_gone, fun _ h => nomatch h⟩⟩⟩⟩), by decide, by decide⟩
  have cf_Works : CF K q_Works "Works" ns_Works := ⟨h_gc_Works, ⟨h_pg_Works, h_dh_Works, h_po_Works, h_sa_Works⟩, (by unfold ns_Works NoAttr; exact List.forall_mem_cons.mpr ⟨h_na_Works_shared, List.forall_mem_cons.mpr ⟨h_na_Works_team, List.forall_mem_cons.mpr ⟨h_na_Works_past, fun _ h => nomatch h⟩⟩⟩), by decide, by decide⟩
  have xx_NoHand : PySem.W.excIn K ((clx q_NoHand q_Over q_NoNote q_Held) 0) [.type "ValueError", .type "Exception", .type "BaseException", .type "object"] "ValueError.__new__" = true := h_xx_NoHand
  have gc_NoHand : mg "NoHand" = some (.ref ((clx q_NoHand q_Over q_NoNote q_Held) 0)) := PySem.W.mg_of X G h_gc_NoHand
  have kk_NoHand : PySem.W.keepIn K (.ref ((clx q_NoHand q_Over q_NoNote q_Held) 0)) = true := h_kk_NoHand
  have bb_NoHand : PySem.W.subIn K (.ref ((clx q_NoHand q_Over q_NoNote q_Held) 0)) (.type "BaseException") = some true := h_bb_NoHand
  have tt_NoHand : PySem.W.typeIn K (.ref ((clx q_NoHand q_Over q_NoNote q_Held) 0)) = some (.type "type") := h_tt_NoHand
  have xx_Over : PySem.W.excIn K ((clx q_NoHand q_Over q_NoNote q_Held) 1) [.type "ValueError", .type "Exception", .type "BaseException", .type "object"] "ValueError.__new__" = true := h_xx_Over
  have gc_Over : mg "Over" = some (.ref ((clx q_NoHand q_Over q_NoNote q_Held) 1)) := PySem.W.mg_of X G h_gc_Over
  have kk_Over : PySem.W.keepIn K (.ref ((clx q_NoHand q_Over q_NoNote q_Held) 1)) = true := h_kk_Over
  have bb_Over : PySem.W.subIn K (.ref ((clx q_NoHand q_Over q_NoNote q_Held) 1)) (.type "BaseException") = some true := h_bb_Over
  have tt_Over : PySem.W.typeIn K (.ref ((clx q_NoHand q_Over q_NoNote q_Held) 1)) = some (.type "type") := h_tt_Over
  have ox_Held : OexC K ((clx q_NoHand q_Over q_NoNote q_Held) 3) := ⟨⟨_, _, _, _, _, _, _, _, _, _, _, _, _, _, _, h_lk_Held, h_rf_Held⟩, h_sa_Held, h_bb_Held, h_tt_Held, h_kk_Held⟩
  have fn_Held : PySem.W.findIn K (.ref ((clx q_NoHand q_Over q_NoNote q_Held) 3)) "note" = some none := h_fn_Held
  have iC_Held : PySem.W.findIn K (.ref ((clx q_NoHand q_Over q_NoNote q_Held) 3)) "__init__" = some (some (.ref fi_Held)) := h_iC_Held
  have gc_Held : mg "Held" = some (.ref ((clx q_NoHand q_Over q_NoNote q_Held) 3)) := PySem.W.mg_of X G h_gc_Held
  have tI_Held := h_tI_Held
  have Fi_Held := fun_mk (st := s_Held___init__) h_il_Held h_ic_Held h_ik_Held
  have xi_Held := ok_Held___init__ (P := l.prog) (w := w) (mg := mg) (base := base) Fi_Held (PySem.W.mg_of X G h_gc_NoteError) h_ng_NoteError h_nr_NoteError h_nf_NoteError
  have xb_Held := Fi_Held.binds (ps := ["self", "note"]) fun _ _ _ _ _ _ us hl => match us, hl with | [_, _], _ => rfl
  have cf_Hand : CF K q_Hand "Hand" ns_Hand := ⟨h_gc_Hand, ⟨h_pg_Hand, h_dh_Hand, h_po_Hand, h_sa_Hand⟩, (by unfold ns_Hand NoAttr; exact List.forall_mem_cons.mpr ⟨h_na_Hand_rows, List.forall_mem_cons.mpr ⟨h_na_Hand_at, List.forall_mem_cons.mpr ⟨h_na_Hand_held, List.forall_mem_cons.mpr ⟨h_na_Hand_spoken, List.forall_mem_cons.mpr ⟨h_na_Hand_way, fun _ h => nomatch h⟩⟩⟩⟩⟩), by decide, by decide⟩
  have xc : ∀ n, ExcC K ((clx q_NoHand q_Over q_NoNote q_Held) n) := fun n => match n with | 0 => ⟨h_ga_NoHand, h_gg_NoHand, h_bb_NoHand, h_hd_NoHand, h_cc_NoHand, h_sn, h_tk, h_mo_NoHand⟩ | 1 => ⟨h_ga_Over, h_gg_Over, h_bb_Over, h_hd_Over, h_cc_Over, h_sn, h_tk, h_mo_Over⟩ | 2 => ⟨h_ga_NoNote, h_gg_NoNote, h_bb_NoNote, h_hd_NoNote, h_cc_NoNote, h_sn, h_tk, h_mo_NoNote⟩ | 3 => ⟨h_ga_Held, h_gg_Held, h_bb_Held, h_hd_Held, h_cc_Held, h_sn, h_tk, h_mo_Held⟩ | n + 4 => ⟨h_ga_NoHand, h_gg_NoHand, h_bb_NoHand, h_hd_NoHand, h_cc_NoHand, h_sn, h_tk, h_mo_NoHand⟩
  have kitT_ValueError : ∀ n, PySem.W.kitOne K (.ref ((clx q_NoHand q_Over q_NoNote q_Held) n)) (.type "ValueError") = some (subT_ValueError n) := fun n => match n with | 0 => h_kitT_NoHand_ValueError | 1 => h_kitT_Over_ValueError | 2 => h_kitT_NoNote_ValueError | 3 => h_kitT_Held_ValueError | n + 4 => h_kitT_NoHand_ValueError
  have kit_Held : ∀ n, PySem.W.kitOne K (.ref ((clx q_NoHand q_Over q_NoNote q_Held) n)) (.ref ((clx q_NoHand q_Over q_NoNote q_Held) 3)) = some (sub_Held n) := fun n => match n with | 0 => h_kit_NoHand_Held | 1 => h_kit_Over_Held | 2 => h_kit_NoNote_Held | 3 => h_kit_Held_Held | n + 4 => h_kit_NoHand_Held
  have kit_NoCut : ∀ n, PySem.W.kitOne K (.ref ((clx q_NoHand q_Over q_NoNote q_Held) n)) (.ref q_NoCut) = some (sub_NoCut n) := fun n => match n with | 0 => h_kit_NoHand_NoCut | 1 => h_kit_Over_NoCut | 2 => h_kit_NoNote_NoCut | 3 => h_kit_Held_NoCut | n + 4 => h_kit_NoHand_NoCut
  have gc_NoCut : mg "NoCut" = some (.ref q_NoCut) := PySem.W.mg_of X G h_gc_NoCut
  have kit_Over : ∀ n, PySem.W.kitOne K (.ref ((clx q_NoHand q_Over q_NoNote q_Held) n)) (.ref ((clx q_NoHand q_Over q_NoNote q_Held) 1)) = some (sub_Over n) := fun n => match n with | 0 => h_kit_NoHand_Over | 1 => h_kit_Over_Over | 2 => h_kit_NoNote_Over | 3 => h_kit_Held_Over | n + 4 => h_kit_NoHand_Over
  have kit_NoNote : ∀ n, PySem.W.kitOne K (.ref ((clx q_NoHand q_Over q_NoNote q_Held) n)) (.ref ((clx q_NoHand q_Over q_NoNote q_Held) 2)) = some (sub_NoNote n) := fun n => match n with | 0 => h_kit_NoHand_NoNote | 1 => h_kit_Over_NoNote | 2 => h_kit_NoNote_NoNote | 3 => h_kit_Held_NoNote | n + 4 => h_kit_NoHand_NoNote
  have kit_NoHand : ∀ n, PySem.W.kitOne K (.ref ((clx q_NoHand q_Over q_NoNote q_Held) n)) (.ref ((clx q_NoHand q_Over q_NoNote q_Held) 0)) = some (sub_NoHand n) := fun n => match n with | 0 => h_kit_NoHand_NoHand | 1 => h_kit_Over_NoHand | 2 => h_kit_NoNote_NoHand | 3 => h_kit_Held_NoHand | n + 4 => h_kit_NoHand_NoHand
  have gc_NoteError : mg "NoteError" = some (.ref q_NoteError) := PySem.W.mg_of X G h_gc_NoteError
  have exm_NoteError : ∀ n, PySem.W.exmOne K (.ref ((clx q_NoHand q_Over q_NoNote q_Held) n)) (.ref q_NoteError) = some (sub_NoteError n) := fun n => match n with | 0 => PySem.W.exm_ref h_bb_NoteError h_hd_NoteError h_tt_NoteError h_su_NoHand_NoteError | 1 => PySem.W.exm_ref h_bb_NoteError h_hd_NoteError h_tt_NoteError h_su_Over_NoteError | 2 => PySem.W.exm_ref h_bb_NoteError h_hd_NoteError h_tt_NoteError h_su_NoNote_NoteError | 3 => PySem.W.exm_ref h_bb_NoteError h_hd_NoteError h_tt_NoteError h_su_Held_NoteError | n + 4 => PySem.W.exm_ref h_bb_NoteError h_hd_NoteError h_tt_NoteError h_su_NoHand_NoteError
  have F1 := fun_mk (st := s_is_touch) l1 c1 k1
  have b1 := F1.binds (ps := ["counts", "hand", "k"]) fun _ _ _ _ _ _ us hl => match us, hl with | [_, _, _], _ => rfl
  have F2 := fun_mk (st := s_need_record) l2 c2 k2
  have b2 := F2.binds (ps := ["record"]) fun _ _ _ _ _ _ us hl => match us, hl with | [_], _ => rfl
  have F25 := fun_mk (st := s_Works_counts) l25 c25 k25
  have b25 := F25.binds (ps := ["self"]) fun _ _ _ _ _ _ us hl => match us, hl with | [_], _ => rfl
  have F21 := fun_mk (st := s_first_numbers) l21 c21 k21
  have b21 := F21.binds (ps := ["many", "numbers"]) fun _ _ _ _ _ _ us hl => match us, hl with | [_, _], _ => rfl
  have F12 := fun_mk (st := s_Hand___init__) l12 c12 k12
  have b12 := F12.binds (ps := ["self", "rows"]) fun _ _ _ _ _ _ us hl => match us, hl with | [_, _], _ => rfl
  have F15 := fun_mk (st := s_put_in) l15 c15 k15
  have b15 := F15.binds (ps := ["hand", "box", "number"]) fun _ _ _ _ _ _ us hl => match us, hl with | [_, _, _], _ => rfl
  have F13 := fun_mk (st := s_worth_now) l13 c13 k13
  have b13 := F13.binds (ps := ["held", "told"]) fun _ _ _ _ _ _ us hl => match us, hl with | [_, _], _ => rfl
  have F14 := fun_mk (st := s_is_so) l14 c14 k14
  have b14 := F14.binds (ps := ["held", "sign", "one", "other"]) fun _ _ _ _ _ _ us hl => match us, hl with | [_, _, _, _], _ => rfl
  have F16 := fun_mk (st := s_do_own) l16 c16 k16
  have b16 := F16.binds (ps := ["hand", "row"]) fun _ _ _ _ _ _ us hl => match us, hl with | [_, _], _ => rfl
  have F17 := fun_mk (st := s_lead_on) l17 c17 k17
  have b17 := F17.binds (ps := ["hand"]) fun _ _ _ _ _ _ us hl => match us, hl with | [_], _ => rfl
  have F22 := fund_mkN (st := s_Works___init__) l22 c22 k22 t22
  have b22 := F22.posN (ps := ["self", "program", "cells"]) 3 rfl fun _ _ _ _ _ _ _ us its hu hi => match us, its, hu, hi with | [_, _, _], [_], _, _ => ⟨_, rfl, rfl⟩
  have bd22 := F22.dflN (ps := ["self", "program", "cells"]) 2 rfl fun _ _ _ _ _ _ _ us its hu hi => match us, its, hu, hi with | [_, _], [_], _, _ => ⟨_, rfl, rfl⟩
  have kb22 := F22.kwN (ps := ["self", "program", "cells"]) (b := "cells") 2 fun _ _ _ _ _ _ _ us its ws hu hi hw => match us, its, ws, hu, hi, hw with | [_, _], [_], [_], _, _, _ => ⟨_, rfl, rfl⟩
  have F19 := fun_mk (st := s_hand_like) l19 c19 k19
  have b19 := F19.binds (ps := ["hand"]) fun _ _ _ _ _ _ us hl => match us, hl with | [_], _ => rfl
  have F26 := fun_mk (st := s_Works_twin) l26 c26 k26
  have b26 := F26.binds (ps := ["self"]) fun _ _ _ _ _ _ us hl => match us, hl with | [_], _ => rfl
  have F3 := fun_mk (st := s_Replay___init__) l3 c3 k3
  have b3 := F3.binds (ps := ["self", "works", "record"]) fun _ _ _ _ _ _ us hl => match us, hl with | [_, _, _], _ => rfl
  have F24 := fun_mk (st := s_Works_how) l24 c24 k24
  have b24 := F24.binds (ps := ["self", "hand"]) fun _ _ _ _ _ _ us hl => match us, hl with | [_, _], _ => rfl
  have F4 := fun_mk (st := s_Replay_is_over) l4 c4 k4
  have b4 := F4.binds (ps := ["self", "hand"]) fun _ _ _ _ _ _ us hl => match us, hl with | [_, _], _ => rfl
  have F5 := fun_mk (st := s_Replay_holder) l5 c5 k5
  have b5 := F5.binds (ps := ["self", "hand"]) fun _ _ _ _ _ _ us hl => match us, hl with | [_, _], _ => rfl
  have F20 := fun_mk (st := s_hand_of) l20 c20 k20
  have b20 := F20.binds (ps := ["team", "number"]) fun _ _ _ _ _ _ us hl => match us, hl with | [_, _], _ => rfl
  have F18 := fun_mk (st := s_do_touch) l18 c18 k18
  have b18 := F18.binds (ps := ["hand", "shared"]) fun _ _ _ _ _ _ us hl => match us, hl with | [_, _], _ => rfl
  have F23 := fun_mk (st := s_Works_turn) l23 c23 k23
  have b23 := F23.binds (ps := ["self", "hand"]) fun _ _ _ _ _ _ us hl => match us, hl with | [_, _], _ => rfl
  have F6 := fun_mk (st := s_Replay_turn) l6 c6 k6
  have b6 := F6.binds (ps := ["self", "hand"]) fun _ _ _ _ _ _ us hl => match us, hl with | [_, _], _ => rfl
  have F7 := fun_mk (st := s_Replay_free) l7 c7 k7
  have b7 := F7.binds (ps := ["self"]) fun _ _ _ _ _ _ us hl => match us, hl with | [_], _ => rfl
  have F8 := fun_mk (st := s_Replay_counts) l8 c8 k8
  have b8 := F8.binds (ps := ["self"]) fun _ _ _ _ _ _ us hl => match us, hl with | [_], _ => rfl
  have F9 := fun_mk (st := s_Replay_done) l9 c9 k9
  have b9 := F9.binds (ps := ["self"]) fun _ _ _ _ _ _ us hl => match us, hl with | [_], _ => rfl
  have F10 := fun_mk (st := s_Replay___len__) l10 c10 k10
  have b10 := F10.binds (ps := ["self"]) fun _ _ _ _ _ _ us hl => match us, hl with | [_], _ => rfl
  have F37 := fun_mk (st := s_law_asked) l37 c37 k37
  have b37 := F37.binds (ps := ["seen", "free"]) fun _ _ _ _ _ _ us hl => match us, hl with | [_, _], _ => rfl
  have F11 := fun_mk (st := s_played) l11 c11 k11
  have b11 := F11.binds (ps := ["works", "record", "choose"]) fun _ _ _ _ _ _ us hl => match us, hl with | [_, _, _], _ => rfl
  have F27 := fun_mk (st := s_law_reel) l27 c27 k27
  have b27 := F27.binds (ps := ["script"]) fun _ _ _ _ _ _ us hl => match us, hl with | [_], _ => rfl
  have F28 := fun_mk (st := s_law_draw) l28 c28 k28
  have b28 := F28.binds (ps := ["reel", "many"]) fun _ _ _ _ _ _ us hl => match us, hl with | [_, _], _ => rfl
  have F29 := fun_mk (st := s_law_alike) l29 c29 k29
  have b29 := F29.binds (ps := ["found", "due"]) fun _ _ _ _ _ _ us hl => match us, hl with | [_, _], _ => rfl
  have F30 := fun_mk (st := s_law_note) l30 c30 k30
  have b30 := F30.binds (ps := ["reel", "counts"]) fun _ _ _ _ _ _ us hl => match us, hl with | [_, _], _ => rfl
  have F31 := fun_mk (st := s_law_other) l31 c31 k31
  have b31 := F31.binds (ps := ["reel", "note", "counts", "place"]) fun _ _ _ _ _ _ us hl => match us, hl with | [_, _, _, _], _ => rfl
  have F32 := fun_mk (st := s_law_notes) l32 c32 k32
  have b32 := F32.binds (ps := ["reel", "counts"]) fun _ _ _ _ _ _ us hl => match us, hl with | [_, _], _ => rfl
  have F33 := fun_mk (st := s_law_there) l33 c33 k33
  have b33 := F33.binds (ps := ["counts", "hand", "k"]) fun _ _ _ _ _ _ us hl => match us, hl with | [_, _, _], _ => rfl
  have F34 := fun_mk (st := s_law_due) l34 c34 k34
  have b34 := F34.binds (ps := ["counts", "some", "hands"]) fun _ _ _ _ _ _ us hl => match us, hl with | [_, _, _], _ => rfl
  have F35 := fun_mk (st := s_law_kind) l35 c35 k35
  have b35 := F35.binds (ps := ["caught"]) fun _ _ _ _ _ _ us hl => match us, hl with | [_], _ => rfl
  have F36 := fun_mk (st := s_law_made) l36 c36 k36
  have b36 := F36.binds (ps := ["works", "record"]) fun _ _ _ _ _ _ us hl => match us, hl with | [_, _], _ => rfl
  have F38 := fun_mk (st := s_law_played) l38 c38 k38
  have FC38 : FunC K "_law_played" "_law_played" s_law_played f38 _ tc_law_played := ⟨⟨_, _, _, _, _, _, _, _, rfl, l38, c38⟩⟩
  have b38 := F38.binds (ps := ["works", "record"]) fun _ _ _ _ _ _ us hl => match us, hl with | [_, _], _ => rfl
  have F39 := fun_mk (st := s_law_right) l39 c39 k39
  have b39 := F39.binds (ps := ["works", "counts", "some", "hands"]) fun _ _ _ _ _ _ us hl => match us, hl with | [_, _, _, _], _ => rfl
  have F40 := fun_mk (st := s_law_rows) l40 c40 k40
  have b40 := F40.binds (ps := ["many", "last"]) fun _ _ _ _ _ _ us hl => match us, hl with | [_, _], _ => rfl
  have F41 := fun_mk (st := s_law) l41 c41 k41
  have b41 := F41.binds (ps := ["script"]) fun _ _ _ _ _ _ us hl => match us, hl with | [_], _ => rfl
  have o1 := ok_is_touch (cl := (clx q_NoHand q_Over q_NoNote q_Held)) (tb := (tbx tP_law_played)) (P := l.prog) (w := w) (mg := mg) (base := base) F1 (PySem.W.mg_none_of X G z_len)
  have c_is_touch : Cal l.prog w K mg base CX0 "is_touch" ["counts", "hand", "k"] 1 (sp_is_touch K (clx q_NoHand q_Over q_NoNote q_Held) (tbx tP_law_played)) f1 _ := ⟨o1, PySem.W.mg_of X G a1, k1, b1⟩
  have o2 := ok_need_record (cl := (clx q_NoHand q_Over q_NoNote q_Held)) (tb := (tbx tP_law_played)) (P := l.prog) (w := w) (mg := mg) (base := base) F2 c_is_touch xx_NoNote gc_NoNote kk_NoNote bb_NoNote tt_NoNote
  have c_need_record : Cal l.prog w K mg base (L2.CX l.prog w) "need_record" ["record"] 2 (sp_need_record K (clx q_NoHand q_Over q_NoNote q_Held) (tbx tP_law_played)) f2 _ := ⟨o2, PySem.W.mg_of X G a2, k2, b2⟩
  have o25 := ok_Works_counts (cl := (clx q_NoHand q_Over q_NoNote q_Held)) (tb := (tbx tP_law_played)) (P := l.prog) (w := w) (mg := mg) (base := base) F25 (PySem.W.mg_none_of X G z_len) (PySem.W.mg_none_of X G z_range) cf_Works
  have c_Works_counts : MCal l.prog w K mg base CX0 q_Works "counts" ["self"] 1 (sp_Works_counts K (clx q_NoHand q_Over q_NoNote q_Held) (tbx tP_law_played)) f25 _ := ⟨o25, ⟨a25, i25, k25⟩, b25⟩
  have o21 := ok_first_numbers (cl := (clx q_NoHand q_Over q_NoNote q_Held)) (tb := (tbx tP_law_played)) (P := l.prog) (w := w) (mg := mg) (base := base) F21 (PySem.W.mg_none_of X G z_len) (PySem.W.mg_none_of X G z_list) (PySem.W.mg_of X G g_ROUND)
  have c_first_numbers : Cal l.prog w K mg base CX0 "first_numbers" ["many", "numbers"] 1 (sp_first_numbers K (clx q_NoHand q_Over q_NoNote q_Held) (tbx tP_law_played)) f21 _ := ⟨o21, PySem.W.mg_of X G a21, k21, b21⟩
  have o12 := ok_Hand___init__ (cl := (clx q_NoHand q_Over q_NoNote q_Held)) (tb := (tbx tP_law_played)) (P := l.prog) (w := w) (mg := mg) (base := base) F12 (PySem.W.mg_none_of X G z_list) (PySem.W.mg_none_of X G z_len) (e_LETTERS ▸ PySem.W.mg_of X G g_LETTERS) cf_Hand
  have c_Hand___init__ : KCal l.prog w K mg base CX0 q_Hand "Hand" ["self", "rows"] 1 (sp_Hand___init__ K (clx q_NoHand q_Over q_NoNote q_Held) (tbx tP_law_played)) f12 _ := ⟨o12, ⟨h_mk_Hand, a12, i12, h_kc_Hand⟩, PySem.W.mg_of X G h_gc_Hand, b12⟩
  have o15 := ok_put_in (cl := (clx q_NoHand q_Over q_NoNote q_Held)) (tb := (tbx tP_law_played)) (P := l.prog) (w := w) (mg := mg) (base := base) F15 (e_LETTERS ▸ PySem.W.mg_of X G g_LETTERS) cf_Hand
  have c_put_in : Cal l.prog w K mg base CX0 "put_in" ["hand", "box", "number"] 1 (sp_put_in K (clx q_NoHand q_Over q_NoNote q_Held) (tbx tP_law_played)) f15 _ := ⟨o15, PySem.W.mg_of X G a15, k15, b15⟩
  have o13 := ok_worth_now (cl := (clx q_NoHand q_Over q_NoNote q_Held)) (tb := (tbx tP_law_played)) (P := l.prog) (w := w) (mg := mg) (base := base) F13 (PySem.W.mg_of X G a13) k13 b13 (e_LETTERS ▸ PySem.W.mg_of X G g_LETTERS) (PySem.W.mg_of X G g_ROUND)
  have c_worth_now : Cal l.prog w K mg base CX0 "worth_now" ["held", "told"] 4 (sp_worth_now K (clx q_NoHand q_Over q_NoNote q_Held) (tbx tP_law_played)) f13 _ := ⟨o13, PySem.W.mg_of X G a13, k13, b13⟩
  have o14 := ok_is_so (cl := (clx q_NoHand q_Over q_NoNote q_Held)) (tb := (tbx tP_law_played)) (P := l.prog) (w := w) (mg := mg) (base := base) F14 c_worth_now
  have c_is_so : Cal l.prog w K mg base CX0 "is_so" ["held", "sign", "one", "other"] 5 (sp_is_so K (clx q_NoHand q_Over q_NoNote q_Held) (tbx tP_law_played)) f14 _ := ⟨o14, PySem.W.mg_of X G a14, k14, b14⟩
  have o16 := ok_do_own (cl := (clx q_NoHand q_Over q_NoNote q_Held)) (tb := (tbx tP_law_played)) (P := l.prog) (w := w) (mg := mg) (base := base) F16 c_put_in c_worth_now c_is_so cf_Hand
  have c_do_own : Cal l.prog w K mg base CX0 "do_own" ["hand", "row"] 6 (sp_do_own K (clx q_NoHand q_Over q_NoNote q_Held) (tbx tP_law_played)) f16 _ := ⟨o16, PySem.W.mg_of X G a16, k16, b16⟩
  have o17 := ok_lead_on (cl := (clx q_NoHand q_Over q_NoNote q_Held)) (tb := (tbx tP_law_played)) (P := l.prog) (w := w) (mg := mg) (base := base) F17 c_do_own (PySem.W.mg_none_of X G z_range) (PySem.W.mg_none_of X G z_len) (PySem.W.mg_of X G g_MOST_OWN) cf_Hand
  have c_lead_on : Cal l.prog w K mg base CX0 "lead_on" ["hand"] 7 (sp_lead_on K (clx q_NoHand q_Over q_NoNote q_Held) (tbx tP_law_played)) f17 _ := ⟨o17, PySem.W.mg_of X G a17, k17, b17⟩
  have o22 := ok_Works___init__ (cl := (clx q_NoHand q_Over q_NoNote q_Held)) (tb := (tbx tP_law_played)) (P := l.prog) (w := w) (mg := mg) (base := base) F22 c_first_numbers c_Hand___init__ c_lead_on cf_Works cf_Hand
  have c_Works___init__ : KCal l.prog w K mg base CX0 q_Works "Works" ["self", "program", "cells"] 8 (sp_Works___init__ K (clx q_NoHand q_Over q_NoNote q_Held) (tbx tP_law_played)) f22 _ := ⟨o22, ⟨h_mk_Works, a22, i22, h_kc_Works⟩, PySem.W.mg_of X G h_gc_Works, b22⟩
  have o19 := ok_hand_like (cl := (clx q_NoHand q_Over q_NoNote q_Held)) (tb := (tbx tP_law_played)) (P := l.prog) (w := w) (mg := mg) (base := base) F19 c_Hand___init__ (PySem.W.mg_none_of X G z_list) cf_Hand
  have c_hand_like : Cal l.prog w K mg base CX0 "hand_like" ["hand"] 3 (sp_hand_like K (clx q_NoHand q_Over q_NoNote q_Held) (tbx tP_law_played)) f19 _ := ⟨o19, PySem.W.mg_of X G a19, k19, b19⟩
  have o26 := ok_Works_twin (cl := (clx q_NoHand q_Over q_NoNote q_Held)) (tb := (tbx tP_law_played)) (P := l.prog) (w := w) (mg := mg) (base := base) F26 c_Works___init__ c_hand_like (PySem.W.mg_none_of X G z_len) (PySem.W.mg_none_of X G z_list) cf_Works
  have c_Works_twin : MCal l.prog w K mg base CX0 q_Works "twin" ["self"] 10 (sp_Works_twin K (clx q_NoHand q_Over q_NoNote q_Held) (tbx tP_law_played)) f26 _ := ⟨o26, ⟨a26, i26, k26⟩, b26⟩
  have o3 := ok_Replay___init__ (cl := (clx q_NoHand q_Over q_NoNote q_Held)) (tb := (tbx tP_law_played)) (P := l.prog) (w := w) (mg := mg) (base := base) F3 c_need_record c_Works_counts c_Works_twin (PySem.W.mg_none_of X G z_len) (PySem.W.mg_none_of X G z_list) cf_Replay cf_Works xx_NoHand gc_NoHand kk_NoHand bb_NoHand tt_NoHand
  have c_Replay___init__ : KCal l.prog w K mg base (L2.CX l.prog w) q_Replay "Replay" ["self", "works", "record"] 11 (sp_Replay___init__ K (clx q_NoHand q_Over q_NoNote q_Held) (tbx tP_law_played)) f3 _ := ⟨o3, ⟨h_mk_Replay, a3, i3, h_kc_Replay⟩, PySem.W.mg_of X G h_gc_Replay, b3⟩
  have o_hand_of_D := ok_hand_of_D (cl := (clx q_NoHand q_Over q_NoNote q_Held)) (tb := (tbx tP_law_played)) (P := l.prog) (w := w) (mg := mg) (base := base) F20 (PySem.W.mg_none_of X G z_len) xx_NoHand gc_NoHand kk_NoHand bb_NoHand tt_NoHand
  have c_hand_of_D : Cal l.prog w K mg base (L2.CX l.prog w) "hand_of" ["team", "number"] 1 (sp_hand_of_D K (clx q_NoHand q_Over q_NoNote q_Held) (tbx tP_law_played)) f20 _ := ⟨o_hand_of_D, PySem.W.mg_of X G a20, k20, b20⟩
  have o24 := ok_Works_how (cl := (clx q_NoHand q_Over q_NoNote q_Held)) (tb := (tbx tP_law_played)) (P := l.prog) (w := w) (mg := mg) (base := base) F24 c_hand_of_D cf_Works cf_Hand
  have c_Works_how : MCal l.prog w K mg base (L2.CX l.prog w) q_Works "how" ["self", "hand"] 2 (sp_Works_how K (clx q_NoHand q_Over q_NoNote q_Held) (tbx tP_law_played)) f24 _ := ⟨o24, ⟨a24, i24, k24⟩, b24⟩
  have o4 := ok_Replay_is_over (cl := (clx q_NoHand q_Over q_NoNote q_Held)) (tb := (tbx tP_law_played)) (P := l.prog) (w := w) (mg := mg) (base := base) F4 c_Works_how cf_Replay cf_Works
  have c_Replay_is_over : MCal l.prog w K mg base (L2.CX l.prog w) q_Replay "is_over" ["self", "hand"] 3 (sp_Replay_is_over K (clx q_NoHand q_Over q_NoNote q_Held) (tbx tP_law_played)) f4 _ := ⟨o4, ⟨a4, i4, k4⟩, b4⟩
  have o5 := ok_Replay_holder (cl := (clx q_NoHand q_Over q_NoNote q_Held)) (tb := (tbx tP_law_played)) (P := l.prog) (w := w) (mg := mg) (base := base) F5 (PySem.W.mg_none_of X G z_min) cf_Replay
  have c_Replay_holder : MCal l.prog w K mg base CX0 q_Replay "holder" ["self", "hand"] 1 (sp_Replay_holder K (clx q_NoHand q_Over q_NoNote q_Held) (tbx tP_law_played)) f5 _ := ⟨o5, ⟨a5, i5, k5⟩, b5⟩
  have o20 := ok_hand_of (cl := (clx q_NoHand q_Over q_NoNote q_Held)) (tb := (tbx tP_law_played)) (P := l.prog) (w := w) (mg := mg) (base := base) F20 (PySem.W.mg_none_of X G z_len) xx_NoHand gc_NoHand kk_NoHand bb_NoHand tt_NoHand
  have c_hand_of : Cal l.prog w K mg base (L2.CX l.prog w) "hand_of" ["team", "number"] 1 (sp_hand_of K (clx q_NoHand q_Over q_NoNote q_Held) (tbx tP_law_played)) f20 _ := ⟨o20, PySem.W.mg_of X G a20, k20, b20⟩
  have o18 := ok_do_touch (cl := (clx q_NoHand q_Over q_NoNote q_Held)) (tb := (tbx tP_law_played)) (P := l.prog) (w := w) (mg := mg) (base := base) F18 c_worth_now c_put_in cf_Hand
  have c_do_touch : Cal l.prog w K mg base CX0 "do_touch" ["hand", "shared"] 5 (sp_do_touch K (clx q_NoHand q_Over q_NoNote q_Held) (tbx tP_law_played)) f18 _ := ⟨o18, PySem.W.mg_of X G a18, k18, b18⟩
  have o23 := ok_Works_turn (cl := (clx q_NoHand q_Over q_NoNote q_Held)) (tb := (tbx tP_law_played)) (P := l.prog) (w := w) (mg := mg) (base := base) F23 c_hand_of c_do_touch c_lead_on cf_Works cf_Hand xx_Over gc_Over kk_Over bb_Over tt_Over
  have c_Works_turn : MCal l.prog w K mg base (L2.CX l.prog w) q_Works "turn" ["self", "hand"] 8 (sp_Works_turn K (clx q_NoHand q_Over q_NoNote q_Held) (tbx tP_law_played)) f23 _ := ⟨o23, ⟨a23, i23, k23⟩, b23⟩
  have o6 := ok_Replay_turn (cl := (clx q_NoHand q_Over q_NoNote q_Held)) (tb := (tbx tP_law_played)) (P := l.prog) (w := w) (mg := mg) (base := base) F6 c_Replay_is_over c_Replay_holder c_Works_turn (PySem.W.mg_none_of X G z_len) cf_Replay xx_NoHand gc_NoHand kk_NoHand bb_NoHand tt_NoHand xx_Over gc_Over kk_Over bb_Over tt_Over ox_Held fn_Held iC_Held gc_Held tI_Held xi_Held xb_Held cf_Works
  have c_Replay_turn : MCal l.prog w K mg base (L2.CX l.prog w) q_Replay "turn" ["self", "hand"] 9 (sp_Replay_turn K (clx q_NoHand q_Over q_NoNote q_Held) (tbx tP_law_played)) f6 _ := ⟨o6, ⟨a6, i6, k6⟩, b6⟩
  have o7 := ok_Replay_free (cl := (clx q_NoHand q_Over q_NoNote q_Held)) (tb := (tbx tP_law_played)) (P := l.prog) (w := w) (mg := mg) (base := base) F7 c_Replay_is_over c_Replay_holder (PySem.W.mg_none_of X G z_len) (PySem.W.mg_none_of X G z_range) cf_Replay
  have c_Replay_free : MCal l.prog w K mg base (L2.CX l.prog w) q_Replay "free" ["self"] 4 (sp_Replay_free K (clx q_NoHand q_Over q_NoNote q_Held) (tbx tP_law_played)) f7 _ := ⟨o7, ⟨a7, i7, k7⟩, b7⟩
  have o8 := ok_Replay_counts (cl := (clx q_NoHand q_Over q_NoNote q_Held)) (tb := (tbx tP_law_played)) (P := l.prog) (w := w) (mg := mg) (base := base) F8 (PySem.W.mg_none_of X G z_list) cf_Replay
  have c_Replay_counts : MCal l.prog w K mg base CX0 q_Replay "counts" ["self"] 1 (sp_Replay_counts K (clx q_NoHand q_Over q_NoNote q_Held) (tbx tP_law_played)) f8 _ := ⟨o8, ⟨a8, i8, k8⟩, b8⟩
  have o9 := ok_Replay_done (cl := (clx q_NoHand q_Over q_NoNote q_Held)) (tb := (tbx tP_law_played)) (P := l.prog) (w := w) (mg := mg) (base := base) F9 cf_Replay
  have c_Replay_done : MCal l.prog w K mg base CX0 q_Replay "done" ["self"] 1 (sp_Replay_done K (clx q_NoHand q_Over q_NoNote q_Held) (tbx tP_law_played)) f9 _ := ⟨o9, ⟨a9, i9, k9⟩, b9⟩
  have o10 := ok_Replay___len__ (cl := (clx q_NoHand q_Over q_NoNote q_Held)) (tb := (tbx tP_law_played)) (P := l.prog) (w := w) (mg := mg) (base := base) F10 (PySem.W.mg_none_of X G z_sum) (PySem.W.mg_none_of X G z_len) (PySem.W.mg_none_of X G z_range) cf_Replay
  have c_Replay___len__ : MCal l.prog w K mg base CX0 q_Replay "__len__" ["self"] 1 (sp_Replay___len__ K (clx q_NoHand q_Over q_NoNote q_Held) (tbx tP_law_played)) f10 _ := ⟨o10, ⟨a10, i10, k10⟩, b10⟩
  have o37 := ok_law_asked (cl := (clx q_NoHand q_Over q_NoNote q_Held)) (tb := (tbx tP_law_played)) (P := l.prog) (w := w) (mg := mg) (base := base) F37 (PySem.W.mg_none_of X G z_list)
  have c_law_asked : Cal l.prog w K mg base CX0 "_law_asked" ["seen", "free"] 1 (sp_law_asked K (clx q_NoHand q_Over q_NoNote q_Held) (tbx tP_law_played)) f37 _ := ⟨o37, PySem.W.mg_of X G a37, k37, b37⟩
  have c_law_played__lam0 := ok_law_played__lam0 (cl := (clx q_NoHand q_Over q_NoNote q_Held)) (tb := (tbx tP_law_played)) (P := l.prog) (w := w) (K := K) (mg := mg) (base := base) c_law_asked
  have o11 := ok_played (cl := (clx q_NoHand q_Over q_NoNote q_Held)) (tb := (tbx tP_law_played)) (P := l.prog) (w := w) (mg := mg) (base := base) F11 c_Replay___init__ c_Replay_free c_law_played__lam0 c_Replay_turn (PySem.W.mg_none_of X G z_list) cf_Replay
  have c_played : Cal l.prog w K mg base (L2.CX l.prog w) "played" ["works", "record", "choose"] 13 (sp_played K (clx q_NoHand q_Over q_NoNote q_Held) (tbx tP_law_played)) f11 _ := ⟨o11, PySem.W.mg_of X G a11, k11, b11⟩
  have o27 := ok_law_reel (cl := (clx q_NoHand q_Over q_NoNote q_Held)) (tb := (tbx tP_law_played)) (P := l.prog) (w := w) (mg := mg) (base := base) F27 
  have c_law_reel : Cal l.prog w K mg base CX0 "_law_reel" ["script"] 1 (sp_law_reel K (clx q_NoHand q_Over q_NoNote q_Held) (tbx tP_law_played)) f27 _ := ⟨o27, PySem.W.mg_of X G a27, k27, b27⟩
  have o28 := ok_law_draw (cl := (clx q_NoHand q_Over q_NoNote q_Held)) (tb := (tbx tP_law_played)) (P := l.prog) (w := w) (mg := mg) (base := base) F28 (PySem.W.mg_none_of X G z_int) (PySem.W.mg_none_of X G z_len)
  have c_law_draw : Cal l.prog w K mg base CX0 "_law_draw" ["reel", "many"] 1 (sp_law_draw K (clx q_NoHand q_Over q_NoNote q_Held) (tbx tP_law_played)) f28 _ := ⟨o28, PySem.W.mg_of X G a28, k28, b28⟩
  have o29 := ok_law_alike (cl := (clx q_NoHand q_Over q_NoNote q_Held)) (tb := (tbx tP_law_played)) (P := l.prog) (w := w) (mg := mg) (base := base) F29 (PySem.W.mg_of X G a29) k29 b29 (PySem.W.mg_none_of X G z_isinstance) (PySem.W.mg_none_of X G z_tuple) (PySem.W.mg_none_of X G z_list) (PySem.W.mg_none_of X G z_len) (PySem.W.mg_none_of X G z_zip) (PySem.W.mg_none_of X G z_all) (PySem.W.mg_none_of X G z_bool) (PySem.W.mg_none_of X G z_str) (PySem.W.mg_none_of X G z_int)
  have c_law_alike : Cal l.prog w K mg base CX0 "_law_alike" ["found", "due"] 7 (sp_law_alike K (clx q_NoHand q_Over q_NoNote q_Held) (tbx tP_law_played)) f29 _ := ⟨o29, PySem.W.mg_of X G a29, k29, b29⟩
  have o30 := ok_law_note (cl := (clx q_NoHand q_Over q_NoNote q_Held)) (tb := (tbx tP_law_played)) (P := l.prog) (w := w) (mg := mg) (base := base) F30 c_law_draw (PySem.W.mg_none_of X G z_len) (PySem.W.mg_none_of X G z_range)
  have c_law_note : Cal l.prog w K mg base CX0 "_law_note" ["reel", "counts"] 2 (sp_law_note K (clx q_NoHand q_Over q_NoNote q_Held) (tbx tP_law_played)) f30 _ := ⟨o30, PySem.W.mg_of X G a30, k30, b30⟩
  have o31 := ok_law_other (cl := (clx q_NoHand q_Over q_NoNote q_Held)) (tb := (tbx tP_law_played)) (P := l.prog) (w := w) (mg := mg) (base := base) F31 c_law_draw (PySem.W.mg_none_of X G z_list) (PySem.W.mg_none_of X G z_len)
  have c_law_other : Cal l.prog w K mg base CX0 "_law_other" ["reel", "note", "counts", "place"] 2 (sp_law_other K (clx q_NoHand q_Over q_NoNote q_Held) (tbx tP_law_played)) f31 _ := ⟨o31, PySem.W.mg_of X G a31, k31, b31⟩
  have o32 := ok_law_notes (cl := (clx q_NoHand q_Over q_NoNote q_Held)) (tb := (tbx tP_law_played)) (P := l.prog) (w := w) (mg := mg) (base := base) F32 c_law_draw c_law_note c_law_other (PySem.W.mg_none_of X G z_range) (PySem.W.mg_none_of X G z_len)
  have c_law_notes : Cal l.prog w K mg base CX0 "_law_notes" ["reel", "counts"] 3 (sp_law_notes K (clx q_NoHand q_Over q_NoNote q_Held) (tbx tP_law_played)) f32 _ := ⟨o32, PySem.W.mg_of X G a32, k32, b32⟩
  have o33 := ok_law_there (cl := (clx q_NoHand q_Over q_NoNote q_Held)) (tb := (tbx tP_law_played)) (P := l.prog) (w := w) (mg := mg) (base := base) F33 (PySem.W.mg_none_of X G z_len)
  have c_law_there : Cal l.prog w K mg base CX0 "_law_there" ["counts", "hand", "k"] 1 (sp_law_there K (clx q_NoHand q_Over q_NoNote q_Held) (tbx tP_law_played)) f33 _ := ⟨o33, PySem.W.mg_of X G a33, k33, b33⟩
  have o34 := ok_law_due (cl := (clx q_NoHand q_Over q_NoNote q_Held)) (tb := (tbx tP_law_played)) (P := l.prog) (w := w) (mg := mg) (base := base) F34 c_law_there (PySem.W.mg_none_of X G z_len) (PySem.W.mg_none_of X G z_int)
  have c_law_due : Cal l.prog w K mg base CX0 "_law_due" ["counts", "some", "hands"] 2 (sp_law_due K (clx q_NoHand q_Over q_NoNote q_Held) (tbx tP_law_played)) f34 _ := ⟨o34, PySem.W.mg_of X G a34, k34, b34⟩
  have o35 := ok_law_kind (cl := (clx q_NoHand q_Over q_NoNote q_Held)) (tb := (tbx tP_law_played)) (P := l.prog) (w := w) (mg := mg) (base := base) F35 (PySem.W.mg_none_of X G z_isinstance) (PySem.W.mg_none_of X G z_ValueError) (PySem.W.mg_none_of X G z_int) xc kitT_ValueError kit_Held gc_Held kit_NoCut gc_NoCut kit_Over gc_Over kit_NoNote gc_NoNote kit_NoHand gc_NoHand
  have c_law_kind : Cal l.prog w K mg base CX0 "_law_kind" ["caught"] 1 (sp_law_kind K (clx q_NoHand q_Over q_NoNote q_Held) (tbx tP_law_played)) f35 _ := ⟨o35, PySem.W.mg_of X G a35, k35, b35⟩
  have o36 := ok_law_made (cl := (clx q_NoHand q_Over q_NoNote q_Held)) (tb := (tbx tP_law_played)) (P := l.prog) (w := w) (mg := mg) (base := base) F36 c_Replay___init__ c_law_kind gc_NoteError exm_NoteError cf_Replay
  have c_law_made : Cal l.prog w K mg base CX0 "_law_made" ["works", "record"] 13 (sp_law_made K (clx q_NoHand q_Over q_NoNote q_Held) (tbx tP_law_played)) f36 _ := ⟨o36, PySem.W.mg_of X G a36, k36, b36⟩
  have o38 := ok_law_played (cl := (clx q_NoHand q_Over q_NoNote q_Held)) (tb := (tbx tP_law_played)) (P := l.prog) (w := w) (mg := mg) (base := base) FC38 (hTB (tc_law_played, tP_law_played) (by simp)) c_played c_law_kind gc_NoteError exm_NoteError
  have c_law_played : Cal l.prog w K mg base CX0 "_law_played" ["works", "record"] 14 (sp_law_played K (clx q_NoHand q_Over q_NoNote q_Held) (tbx tP_law_played)) f38 _ := ⟨o38, PySem.W.mg_of X G a38, k38, b38⟩
  have o39 := ok_law_right (cl := (clx q_NoHand q_Over q_NoNote q_Held)) (tb := (tbx tP_law_played)) (P := l.prog) (w := w) (mg := mg) (base := base) F39 c_law_due c_law_made c_law_played c_Replay___init__ c_law_alike c_Replay_counts c_Replay___len__ c_Replay_done c_Works_counts (PySem.W.mg_none_of X G z_list) (PySem.W.mg_none_of X G z_len) (PySem.W.mg_none_of X G z_sum) cf_Replay cf_Works
  have c_law_right : Cal l.prog w K mg base CX0 "_law_right" ["works", "counts", "some", "hands"] 15 (sp_law_right K (clx q_NoHand q_Over q_NoNote q_Held) (tbx tP_law_played)) f39 _ := ⟨o39, PySem.W.mg_of X G a39, k39, b39⟩
  have o40 := ok_law_rows (cl := (clx q_NoHand q_Over q_NoNote q_Held)) (tb := (tbx tP_law_played)) (P := l.prog) (w := w) (mg := mg) (base := base) F40 (PySem.W.mg_none_of X G z_int)
  have c_law_rows : Cal l.prog w K mg base CX0 "_law_rows" ["many", "last"] 1 (sp_law_rows K (clx q_NoHand q_Over q_NoNote q_Held) (tbx tP_law_played)) f40 _ := ⟨o40, PySem.W.mg_of X G a40, k40, b40⟩
  have o41 := ok_law (cl := (clx q_NoHand q_Over q_NoNote q_Held)) (tb := (tbx tP_law_played)) (P := l.prog) (w := w) (mg := mg) (base := base) F41 c_law_reel c_law_draw c_Works___init__ c_law_rows c_law_right c_law_notes bd22 (PySem.W.mg_none_of X G z_len) (PySem.W.mg_none_of X G z_min) (PySem.W.mg_none_of X G z_range) cf_Works
  refine FnOk.imp o41 fun vs H Q E hq => ?_
  obtain ⟨a, ns, rfl, hS, hl, ht_law_played, q⟩ := hq
  refine ⟨[], hideG H [(tP_law_played, HO.tbl #[])], .ref a, ns, .non, (), [(tP_law_played, HO.tbl #[])], rfl, Zs.tab1 ht_law_played, ⟨a, _, rfl, ints_dl, .inl (sql_hide (by simp [ht_law_played]) hS)⟩, ⟨#[], rfl, tab_nil⟩, run_mono' (law_true hl) fun r hr v h_ H' Ho' e z d _ => ?_⟩
  rw [hr] at d
  rw [d_bool d]
  exact q H'
end M
open PySem PySem.W PyProof.Rows
set_option maxHeartbeats 0 in
theorem PySem.Challenge.cw_fewnotes_k50_replays_made_holds : PySem.Challenge.rw_fewnotes_k50_replays_made.Holds := by
  w_on; o_law; k_head; (case hw => w_witness2)
  k_fill
  refine LamX.walk_ofTs (l := PySem.Challenge.rw_fewnotes_k50_replays_made) (n := 63) (k := 16) (x := "script") (CX := fun _ => L2.CX0) rfl (by decide) rfl ⟨rfl, by decide, by decide⟩ (fun w h Y => PySem.W.km_in_of Y) ?F (fun _ _ _ _ _ h => h)
  case F =>
    intro w mg fa h Y KX G hmg
    refine' M.all_mk KX G hmg ?h_gc_NoHand ?h_gc_Over ?h_gc_NoNote ?h_gc_Held ?h_gc_Replay ?h_gc_Works ?h_gc_Hand ?h_gc_NoCut ?h_gc_NoteError ?h_pg_Replay ?h_dh_Replay ?h_po_Replay ?h_sa_Replay ?h_na_Replay_going ?h_na_Replay_due ?h_na_Replay_ties ?h_na_Replay_gone ?h_mk_Replay ?h_kc_Replay ?h_pg_Works ?h_dh_Works ?h_po_Works ?h_sa_Works ?h_na_Works_shared ?h_na_Works_team ?h_na_Works_past ?h_mk_Works ?h_kc_Works ?h_pg_Hand ?h_dh_Hand ?h_po_Hand ?h_sa_Hand ?h_na_Hand_rows ?h_na_Hand_at ?h_na_Hand_held ?h_na_Hand_spoken ?h_na_Hand_way ?h_mk_Hand ?h_kc_Hand ?a1 ?l1 ?c1 ?k1 ?a2 ?l2 ?c2 ?k2 ?a3 ?i3 ?l3 ?c3 ?k3 ?a4 ?i4 ?l4 ?c4 ?k4 ?a5 ?i5 ?l5 ?c5 ?k5 ?a6 ?i6 ?l6 ?c6 ?k6 ?a7 ?i7 ?l7 ?c7 ?k7 ?a8 ?i8 ?l8 ?c8 ?k8 ?a9 ?i9 ?l9 ?c9 ?k9 ?a10 ?i10 ?l10 ?c10 ?k10 ?a11 ?l11 ?c11 ?k11 ?a12 ?i12 ?l12 ?c12 ?k12 ?a13 ?l13 ?c13 ?k13 ?a14 ?l14 ?c14 ?k14 ?a15 ?l15 ?c15 ?k15 ?a16 ?l16 ?c16 ?k16 ?a17 ?l17 ?c17 ?k17 ?a18 ?l18 ?c18 ?k18 ?a19 ?l19 ?c19 ?k19 ?a20 ?l20 ?c20 ?k20 ?a21 ?l21 ?c21 ?k21 ?a22 ?i22 ?l22 ?t22 ?c22 ?k22 ?a23 ?i23 ?l23 ?c23 ?k23 ?a24 ?i24 ?l24 ?c24 ?k24 ?a25 ?i25 ?l25 ?c25 ?k25 ?a26 ?i26 ?l26 ?c26 ?k26 ?a27 ?l27 ?c27 ?k27 ?a28 ?l28 ?c28 ?k28 ?a29 ?l29 ?c29 ?k29 ?a30 ?l30 ?c30 ?k30 ?a31 ?l31 ?c31 ?k31 ?a32 ?l32 ?c32 ?k32 ?a33 ?l33 ?c33 ?k33 ?a34 ?l34 ?c34 ?k34 ?a35 ?l35 ?c35 ?k35 ?a36 ?l36 ?c36 ?k36 ?a37 ?l37 ?c37 ?k37 ?a38 ?l38 ?c38 ?k38 ?a39 ?l39 ?c39 ?k39 ?a40 ?l40 ?c40 ?k40 ?a41 ?l41 ?c41 ?k41 ?tl_law_played ?tw_law_played ?th_law_played ?tn_law_played ?tt_law_played ?z_len ?z_list ?z_min ?z_range ?z_sum ?z_int ?z_isinstance ?z_tuple ?z_zip ?z_all ?z_bool ?z_str ?z_ValueError ?g_LETTERS ?e_LETTERS ?g_ROUND ?g_MOST_OWN ?h_lk_Held ?h_rf_Held ?h_sa_Held ?h_kk_Held ?h_fn_Held ?h_iC_Held ?h_tI_Held ?h_il_Held ?h_ic_Held ?h_ik_Held ?h_ng_NoteError ?h_nr_NoteError ?h_nf_NoteError ?h_xx_NoNote ?h_kk_NoNote ?h_xx_NoHand ?h_kk_NoHand ?h_xx_Over ?h_kk_Over ?h_ga_NoHand ?h_gg_NoHand ?h_cc_NoHand ?h_mo_NoHand ?h_ga_Over ?h_gg_Over ?h_cc_Over ?h_mo_Over ?h_ga_NoNote ?h_gg_NoNote ?h_cc_NoNote ?h_mo_NoNote ?h_ga_Held ?h_gg_Held ?h_cc_Held ?h_mo_Held ?h_sn ?h_tk ?h_bb_Held ?h_bb_NoHand ?h_bb_NoNote ?h_bb_NoteError ?h_bb_Over ?h_hd_Held ?h_hd_NoHand ?h_hd_NoNote ?h_hd_NoteError ?h_hd_Over ?h_tt_Held ?h_tt_NoHand ?h_tt_NoNote ?h_tt_NoteError ?h_tt_Over ?h_kitT_NoHand_ValueError ?h_kitT_Over_ValueError ?h_kitT_NoNote_ValueError ?h_kitT_Held_ValueError ?h_kit_NoHand_Held ?h_kit_Over_Held ?h_kit_NoNote_Held ?h_kit_Held_Held ?h_kit_NoHand_NoCut ?h_kit_Over_NoCut ?h_kit_NoNote_NoCut ?h_kit_Held_NoCut ?h_kit_NoHand_Over ?h_kit_Over_Over ?h_kit_NoNote_Over ?h_kit_Held_Over ?h_kit_NoHand_NoNote ?h_kit_Over_NoNote ?h_kit_NoNote_NoNote ?h_kit_Held_NoNote ?h_kit_NoHand_NoHand ?h_kit_Over_NoHand ?h_kit_NoNote_NoHand ?h_kit_Held_NoHand ?h_su_NoHand_NoteError ?h_su_Over_NoteError ?h_su_NoNote_NoteError ?h_su_Held_NoteError
    (case h_gc_NoHand => k_is); (case h_gc_Over => k_is); (case h_gc_NoNote => k_is); (case h_gc_Held => k_is); (case h_gc_Replay => k_is); (case h_gc_Works => k_is); (case h_gc_Hand => k_is); (case h_gc_NoCut => k_is); (case h_gc_NoteError => k_is); (case h_pg_Replay => k_is); (case h_dh_Replay => k_is); (case h_po_Replay => k_is); (case h_sa_Replay => k_is); (case h_na_Replay_going => k_is); (case h_na_Replay_due => k_is); (case h_na_Replay_ties => k_is); (case h_na_Replay_gone => k_is); (case h_mk_Replay => k_is); (case h_kc_Replay => k_is); (case h_pg_Works => k_is); (case h_dh_Works => k_is); (case h_po_Works => k_is); (case h_sa_Works => k_is); (case h_na_Works_shared => k_is); (case h_na_Works_team => k_is); (case h_na_Works_past => k_is); (case h_mk_Works => k_is); (case h_kc_Works => k_is); (case h_pg_Hand => k_is); (case h_dh_Hand => k_is); (case h_po_Hand => k_is); (case h_sa_Hand => k_is); (case h_na_Hand_rows => k_is); (case h_na_Hand_at => k_is); (case h_na_Hand_held => k_is); (case h_na_Hand_spoken => k_is); (case h_na_Hand_way => k_is); (case h_mk_Hand => k_is); (case h_kc_Hand => k_is); (case a1 => k_is); (case l1 => k_is); (case c1 => k_is); (case k1 => k_is); (case a2 => k_is); (case l2 => k_is); (case c2 => k_is); (case k2 => k_is); (case a3 => k_is); (case i3 => k_is); (case l3 => k_is); (case c3 => k_is); (case k3 => k_is); (case a4 => k_is); (case i4 => k_is); (case l4 => k_is); (case c4 => k_is); (case k4 => k_is); (case a5 => k_is); (case i5 => k_is); (case l5 => k_is); (case c5 => k_is); (case k5 => k_is); (case a6 => k_is); (case i6 => k_is); (case l6 => k_is); (case c6 => k_is); (case k6 => k_is); (case a7 => k_is); (case i7 => k_is); (case l7 => k_is); (case c7 => k_is); (case k7 => k_is); (case a8 => k_is); (case i8 => k_is); (case l8 => k_is); (case c8 => k_is); (case k8 => k_is); (case a9 => k_is); (case i9 => k_is); (case l9 => k_is); (case c9 => k_is); (case k9 => k_is); (case a10 => k_is); (case i10 => k_is); (case l10 => k_is); (case c10 => k_is); (case k10 => k_is); (case a11 => k_is); (case l11 => k_is); (case c11 => k_is); (case k11 => k_is); (case a12 => k_is); (case i12 => k_is); (case l12 => k_is); (case c12 => k_is); (case k12 => k_is); (case a13 => k_is); (case l13 => k_is); (case c13 => k_is); (case k13 => k_is); (case a14 => k_is); (case l14 => k_is); (case c14 => k_is); (case k14 => k_is); (case a15 => k_is); (case l15 => k_is); (case c15 => k_is); (case k15 => k_is); (case a16 => k_is); (case l16 => k_is); (case c16 => k_is); (case k16 => k_is); (case a17 => k_is); (case l17 => k_is); (case c17 => k_is); (case k17 => k_is); (case a18 => k_is); (case l18 => k_is); (case c18 => k_is); (case k18 => k_is); (case a19 => k_is); (case l19 => k_is); (case c19 => k_is); (case k19 => k_is); (case a20 => k_is); (case l20 => k_is); (case c20 => k_is); (case k20 => k_is); (case a21 => k_is); (case l21 => k_is); (case c21 => k_is); (case k21 => k_is); (case a22 => k_is); (case i22 => k_is); (case l22 => k_is); (case t22 => k_is); (case c22 => k_is); (case k22 => k_is); (case a23 => k_is); (case i23 => k_is); (case l23 => k_is); (case c23 => k_is); (case k23 => k_is); (case a24 => k_is); (case i24 => k_is); (case l24 => k_is); (case c24 => k_is); (case k24 => k_is); (case a25 => k_is); (case i25 => k_is); (case l25 => k_is); (case c25 => k_is); (case k25 => k_is); (case a26 => k_is); (case i26 => k_is); (case l26 => k_is); (case c26 => k_is); (case k26 => k_is); (case a27 => k_is); (case l27 => k_is); (case c27 => k_is); (case k27 => k_is); (case a28 => k_is); (case l28 => k_is); (case c28 => k_is); (case k28 => k_is); (case a29 => k_is); (case l29 => k_is); (case c29 => k_is); (case k29 => k_is); (case a30 => k_is); (case l30 => k_is); (case c30 => k_is); (case k30 => k_is); (case a31 => k_is); (case l31 => k_is); (case c31 => k_is); (case k31 => k_is); (case a32 => k_is); (case l32 => k_is); (case c32 => k_is); (case k32 => k_is); (case a33 => k_is); (case l33 => k_is); (case c33 => k_is); (case k33 => k_is); (case a34 => k_is); (case l34 => k_is); (case c34 => k_is); (case k34 => k_is); (case a35 => k_is); (case l35 => k_is); (case c35 => k_is); (case k35 => k_is); (case a36 => k_is); (case l36 => k_is); (case c36 => k_is); (case k36 => k_is); (case a37 => k_is); (case l37 => k_is); (case c37 => k_is); (case k37 => k_is); (case a38 => k_is); (case l38 => k_is); (case c38 => k_is); (case k38 => k_is); (case a39 => k_is); (case l39 => k_is); (case c39 => k_is); (case k39 => k_is); (case a40 => k_is); (case l40 => k_is); (case c40 => k_is); (case k40 => k_is); (case a41 => k_is); (case l41 => k_is); (case c41 => k_is); (case k41 => k_is); (case tl_law_played => k_is); (case tw_law_played => rfl); (case th_law_played => kernel_rfl); (case tn_law_played => kernel_rfl); (case tt_law_played => exact PySem.W.km_tabs_of Y _ (by decide)); (case z_len => k_is); (case z_list => k_is); (case z_min => k_is); (case z_range => k_is); (case z_sum => k_is); (case z_int => k_is); (case z_isinstance => k_is); (case z_tuple => k_is); (case z_zip => k_is); (case z_all => k_is); (case z_bool => k_is); (case z_str => k_is); (case z_ValueError => k_is); (case g_LETTERS => k_is); (case e_LETTERS => decide +kernel); (case g_ROUND => k_is); (case g_MOST_OWN => k_is); (case h_lk_Held => k_is); (case h_rf_Held => rfl); (case h_sa_Held => k_is); (case h_kk_Held => k_is); (case h_fn_Held => k_is); (case h_iC_Held => k_is); (case h_tI_Held => k_is); (case h_il_Held => k_is); (case h_ic_Held => k_is); (case h_ik_Held => k_is); (case h_ng_NoteError => k_is); (case h_nr_NoteError => k_is); (case h_nf_NoteError => k_is); (case h_xx_NoNote => k_exc); (case h_kk_NoNote => k_is); (case h_xx_NoHand => k_exc); (case h_kk_NoHand => k_is); (case h_xx_Over => k_exc); (case h_kk_Over => k_is); (case h_ga_NoHand => k_is); (case h_gg_NoHand => k_is); (case h_cc_NoHand => k_is); (case h_mo_NoHand => k_is); (case h_ga_Over => k_is); (case h_gg_Over => k_is); (case h_cc_Over => k_is); (case h_mo_Over => k_is); (case h_ga_NoNote => k_is); (case h_gg_NoNote => k_is); (case h_cc_NoNote => k_is); (case h_mo_NoNote => k_is); (case h_ga_Held => k_is); (case h_gg_Held => k_is); (case h_cc_Held => k_is); (case h_mo_Held => k_is); (case h_sn => k_is); (case h_tk => k_is); (case h_bb_Held => k_is); (case h_bb_NoHand => k_is); (case h_bb_NoNote => k_is); (case h_bb_NoteError => k_is); (case h_bb_Over => k_is); (case h_hd_Held => k_is); (case h_hd_NoHand => k_is); (case h_hd_NoNote => k_is); (case h_hd_NoteError => k_is); (case h_hd_Over => k_is); (case h_tt_Held => k_is); (case h_tt_NoHand => k_is); (case h_tt_NoNote => k_is); (case h_tt_NoteError => k_is); (case h_tt_Over => k_is); (case h_kitT_NoHand_ValueError => kit_is); (case h_kitT_Over_ValueError => kit_is); (case h_kitT_NoNote_ValueError => kit_is); (case h_kitT_Held_ValueError => kit_is); (case h_kit_NoHand_Held => kit_is); (case h_kit_Over_Held => kit_is); (case h_kit_NoNote_Held => kit_is); (case h_kit_Held_Held => kit_is); (case h_kit_NoHand_NoCut => kit_is); (case h_kit_Over_NoCut => kit_is); (case h_kit_NoNote_NoCut => kit_is); (case h_kit_Held_NoCut => kit_is); (case h_kit_NoHand_Over => kit_is); (case h_kit_Over_Over => kit_is); (case h_kit_NoNote_Over => kit_is); (case h_kit_Held_Over => kit_is); (case h_kit_NoHand_NoNote => kit_is); (case h_kit_Over_NoNote => kit_is); (case h_kit_NoNote_NoNote => kit_is); (case h_kit_Held_NoNote => kit_is); (case h_kit_NoHand_NoHand => kit_is); (case h_kit_Over_NoHand => kit_is); (case h_kit_NoNote_NoHand => kit_is); (case h_kit_Held_NoHand => kit_is); (case h_su_NoHand_NoteError => first | k_is | rfl); (case h_su_Over_NoteError => first | k_is | rfl); (case h_su_NoNote_NoteError => first | k_is | rfl); (case h_su_Held_NoteError => first | k_is | rfl)
