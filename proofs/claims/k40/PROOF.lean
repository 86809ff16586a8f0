import PyProof.Rows.All
import Wide.All
import OpenK.AllK
import Wide.FinOn
import HandS.ForMost
import HandS.ForExc
import HandS.Wide
import HandS.IsInst
import HandS.Deep
import HandS.SortKw
import HandS.SortRule
import HandS.TupSets
import HandS.ExcIs
import HandS.TryMany
import HandS.StrMore
import HandS.FStr
import HandS.Strs
import HandS.SetFor
import HandS.ListItems
import HandS.SetKeys
import HandS.TupAny
import HandS.Defaults
import KE.DatumOrd
import HandS.SortInts
import HandS.Conv
import HandS.More
import KE.KDictKeyed
import HandS.Style
import HandS.Iter
import HandS.NoneIn
import OpenK.KOps
import KE.KCallOwn
import HandS.SlotsOwn
import HandS.RaiseMore
import PyProof.InstNe
import HandS.ExcOwn
import HandS.Replace
import HandS.MakeKw
import HandS.Zip
import KE.DataMinKey
import KE.KDictDisplayH
import KE.DataFind
import PyProof.SeqI3
import HandS.SortOrd
import PySem.Challenge.RW_fewnotes_k40_whole_order_or_ring
set_option Elab.async false
set_option linter.all false
set_option maxRecDepth 100000
set_option maxHeartbeats 4000000
namespace Z
open PySem PySem.Spec PyProof.Rows L2
/-! ### computations by what they promise -/
structure W (α : Type) where
  go : (α → Prop) → Prop
  mono0 : ∀ (Φ Φ' : α → Prop), (∀ a, Φ a → Φ' a) → go Φ → go Φ'
/-- no projection: two runs are compared by their parts first -/
def W.run {α : Type} (c : W α) (Φ : α → Prop) : Prop := c.go Φ
theorem W.mono {α : Type} (c : W α) (Φ Φ' : α → Prop) (h : ∀ a, Φ a → Φ' a) (q : c.run Φ) : c.run Φ' := c.mono0 Φ Φ' h q
namespace W
variable {α β γ : Type}
def ret (a : α) : W α := ⟨fun Φ => Φ a, fun _ _ h q => h a q⟩
def bind (c : W α) (f : α → W β) : W β := ⟨fun Φ => c.run (fun a => (f a).run Φ), fun Φ Φ' h q => c.mono _ _ (fun a z => (f a).mono _ _ h z) q⟩
def guard (p : Prop) (c : W α) : W α := ⟨fun Φ => p ∧ c.run Φ, fun _ _ h q => ⟨q.1, c.mono _ _ h q.2⟩⟩
def ite (b : Bool) (x y : W α) : W α := ⟨fun Φ => (b = true → x.run Φ) ∧ (b = false → y.run Φ), fun _ _ h q => ⟨fun e => x.mono _ _ h (q.1 e), fun e => y.mono _ _ h (q.2 e)⟩⟩
def opt (o : Option α) : W α := ⟨fun Φ => ∃ a, o = some a ∧ Φ a, fun _ _ h ⟨a, e, q⟩ => ⟨a, e, h a q⟩⟩
def bad : W α := ⟨fun _ => False, fun _ _ _ q => q⟩
end W
/-- how a loop's turn ends -/
inductive Ctl (ρ S : Type) where
  | nx (s : S) | bk (s : S) | rt (r : ρ)
def CtlP {ρ S : Type} (N B : S → Prop) (Φ : ρ → Prop) : Ctl ρ S → Prop
  | .nx s => N s
  | .bk s => B s
  | .rt r => Φ r
theorem ctl_nx {ρ S : Type} {N B : S → Prop} {Φ : ρ → Prop} {s : S} (h : CtlP N B Φ (.nx s)) : N s := h
theorem ctl_bk {ρ S : Type} {N B : S → Prop} {Φ : ρ → Prop} {s : S} (h : CtlP N B Φ (.bk s)) : B s := h
theorem ctl_rt {ρ S : Type} {N B : S → Prop} {Φ : ρ → Prop} {r : ρ} (h : CtlP N B Φ (.rt r)) : Φ r := h
namespace W
variable {α β γ ρ S : Type}
def forL : List α → S → (α → S → W S) → W S
  | [], s, _ => ret s
  | x :: xs, s, f => bind (f x s) fun s' => forL xs s' f
/-- a loop that may be left -/
def forC : List α → S → (α → S → W (Ctl ρ S)) → W (Ctl ρ S)
  | [], s, _ => ret (.nx s)
  | x :: xs, s, f => bind (f x s) fun c => match c with
    | .nx s' => forC xs s' f
    | .bk s' => ret (.nx s')
    | .rt r => ret (.rt r)
def bind2 {α β γ : Type} (c : W (α × β)) (f : α → β → W γ) : W γ := ⟨fun Φ => c.run fun r => (f r.1 r.2).run Φ, fun Φ Φ' h q => c.mono _ _ (fun a z => (f a.1 a.2).mono _ _ h z) q⟩
def after (c : Ctl ρ S) (k : S → W ρ) : W ρ := match c with
  | .nx s => k s
  | .bk s => k s
  | .rt r => ret r
/-- a while loop: a turn tells whether it is left (bk) -/
def whileN : Nat → S → (S → W (Ctl ρ S)) → W (Ctl ρ S)
  | 0, _, _ => bad
  | n + 1, s, f => bind (f s) fun c => match c with
    | .nx s' => whileN n s' f
    | .bk s' => ret (.nx s')
    | .rt r => ret (.rt r)
def whileL (s : S) (f : S → W (Ctl ρ S)) : W (Ctl ρ S) := ⟨fun Φ => ∃ n, (whileN n s f).run Φ, fun _ _ h ⟨n, q⟩ => ⟨n, (whileN n s f).mono _ _ h q⟩⟩
end W
/-! ### data -/
class Py (α : Type) where
  toPy : α → PyData
abbrev toPy {α : Type} [Py α] (a : α) : PyData := Py.toPy a
structure P3 (α β γ : Type) where
  a : α
  b : β
  c : γ
  deriving DecidableEq
structure P4 (α β γ δ : Type) where
  a : α
  b : β
  c : γ
  d : δ
  deriving DecidableEq
structure P5 (α β γ δ ε : Type) where
  a : α
  b : β
  c : γ
  d : δ
  e : ε
  deriving DecidableEq
/-- a tuple of things of one kind -/
structure Tp (α : Type) where
  l : List α
  deriving DecidableEq
instance : Py Int := ⟨.int⟩
instance : Py Bool := ⟨.bool⟩
instance : Py Str := ⟨.str⟩
instance : Py Unit := ⟨fun _ => .none⟩
instance : Py PyData := ⟨id⟩
instance {α : Type} [Py α] : Py (Option α) := ⟨fun o => match o with | none => .none | some a => toPy a⟩
instance {α : Type} [Py α] : Py (List α) := ⟨fun xs => .list (xs.map Py.toPy)⟩
instance {α : Type} [Py α] : Py (Tp α) := ⟨fun xs => .tuple (xs.l.map Py.toPy)⟩
instance {α β : Type} [Py α] [Py β] : Py (α × β) := ⟨fun p => .tuple [toPy p.1, toPy p.2]⟩
instance {α β γ : Type} [Py α] [Py β] [Py γ] : Py (P3 α β γ) := ⟨fun p => .tuple [toPy p.a, toPy p.b, toPy p.c]⟩
instance {α β γ δ : Type} [Py α] [Py β] [Py γ] [Py δ] : Py (P4 α β γ δ) := ⟨fun p => .tuple [toPy p.a, toPy p.b, toPy p.c, toPy p.d]⟩
instance {α β γ δ ε : Type} [Py α] [Py β] [Py γ] [Py δ] [Py ε] : Py (P5 α β γ δ ε) := ⟨fun p => .tuple [toPy p.a, toPy p.b, toPy p.c, toPy p.d, toPy p.e]⟩
/-- a list that is tracked is a list that is read -/
instance {K : PySem.W.Frag} {H : Hp} {a : Addr} {xs : List V} : CoeTail (H a = some (HO.lst xs)) (SqL K H a xs) := ⟨SqL.of⟩
/-! a value is data; each tuple, each list is tracked -/
mutual
inductive Dq (K : PySem.W.Frag) (H : Hp) : V → PyData → Prop
  | non : Dq K H .non .none
  | bl (b : Bool) : Dq K H (.bl b) (.bool b)
  | int (i : Int) : Dq K H (.int i) (.int i)
  | str (x : Str) : Dq K H (.str x) (.str x)
  | lst {a : Addr} {vs : List V} {ds : List PyData} (hs : H a = some (HO.lst vs)) (hd : DqAll K H vs ds) : Dq K H (.ref a) (.list ds)
  | tup {a : Addr} {vs : List V} {ds : List PyData} (hs : H a = some (.tup vs)) (hd : DqAll K H vs ds) : Dq K H (.ref a) (.tuple ds)
  /-- an instance of a class of the text that stands for good -/
  | ins {a dx C : Addr} {cn : Str} {ns : List Str} {vs : List V} {ds : List PyData} (hC : PySem.W.nsIn K mainGlobals cn = some (some (.ref C))) (hs : H a = some (.ins C dx (ns.zip vs))) (hd : DqAll K H vs ds) : Dq K H (.ref a) (.dict [(.str cn, .list (ns.map .str)), (.none, .tuple ds)])
inductive DqAll (K : PySem.W.Frag) (H : Hp) : List V → List PyData → Prop
  | nil : DqAll K H [] []
  | cons {v : V} {vs : List V} {d : PyData} {ds : List PyData} (h : Dq K H v d) (hs : DqAll K H vs ds) : DqAll K H (v :: vs) (d :: ds)
end
section
variable {K : PySem.W.Frag} {H H' : Hp}
mutual
theorem dp_mono (e : Same H H') : ∀ (d : PyData) (v : V), Dq K H v d → Dq K H' v d
  | _, _, .non => .non
  | _, _, .bl b => .bl b
  | _, _, .int i => .int i
  | _, _, .str x => .str x
  | _, _, .lst hs ha => .lst (e _ _ hs) (dpAll_mono e _ _ ha)
  | _, _, .tup hs ha => .tup (e _ _ hs) (dpAll_mono e _ _ ha)
  | _, _, .ins hC hs ha => .ins hC (e _ _ hs) (dpAll_mono e _ _ ha)
theorem dpAll_mono (e : Same H H') : ∀ (ds : List PyData) (vs : List V), DqAll K H vs ds → DqAll K H' vs ds
  | _, _, .nil => .nil
  | _, _, .cons h1 h2 => .cons (dp_mono e _ _ h1) (dpAll_mono e _ _ h2)
end
mutual
theorem Dq.dp : ∀ (d : PyData) (v : V), d.canLay0 = true → Dq K H v d → Dp K H v d
  | _, _, _, .non => .non
  | _, _, _, .bl b => .bl b
  | _, _, _, .int i => .int i
  | _, _, _, .str x => .str x
  | _, _, g, .lst hs ha => .lst (SqL.of hs) (DqAll.dp _ _ (by simpa [PyData.canLay0] using g) ha)
  | _, _, g, .tup hs ha => .tup (SqT.of hs) (DqAll.dp _ _ (by simpa [PyData.canLay0] using g) ha)
  | _, _, g, .ins _ _ _ => by simp [PyData.canLay0] at g
theorem DqAll.dp : ∀ (ds : List PyData) (vs : List V), PyData.canLayAll0 ds = true → DqAll K H vs ds → DpAll K H vs ds
  | _, _, _, .nil => .nil
  | d :: ds, _, g, .cons h1 h2 => by
    have g' : PyData.canLay0 d = true ∧ PyData.canLayAll0 ds = true := by simpa [PyData.canLayAll0] using g
    exact .cons (Dq.dp _ _ g'.1 h1) (DqAll.dp _ _ g'.2 h2)
end
theorem shp {d : PyData} (h : SeqAt.shaped d = true) : d.canLay0 = true := by
  unfold SeqAt.shaped at h
  exact (Bool.and_eq_true _ _ ▸ h).1
end
section
variable {K : PySem.W.Frag} {H H' : Hp} {α : Type} [Py α]
abbrev D (K : PySem.W.Frag) (H : Hp) (v : V) (x : α) : Prop := Dq K H v (toPy x)
abbrev DL (K : PySem.W.Frag) (H : Hp) (vs : List V) (xs : List α) : Prop := DqAll K H vs (xs.map Py.toPy)
theorem D.mo {v : V} {x : α} (h : D K H v x) (e : Same H H') : D K H' v x := dp_mono e _ _ h
theorem DL.mo {vs : List V} {xs : List α} (h : DL K H vs xs) (e : Same H H') : DL K H' vs xs := dpAll_mono e _ _ h
theorem d_int {v : V} {i : Int} (h : D K H v i) : v = .int i := by cases h; rfl
theorem d_bool {v : V} {i : Bool} (h : D K H v i) : v = .bl i := by cases h; rfl
theorem d_str {v : V} {i : Str} (h : D K H v i) : v = .str i := by cases h; rfl
theorem dpAll_len {vs : List V} : ∀ {ds : List PyData}, DqAll K H vs ds → vs.length = ds.length := by
  induction vs with
  | nil => intro ds h; cases h; rfl
  | cons v vs ih => intro ds h; cases h with | cons h1 h2 => simp [ih h2]
theorem DL.len {vs : List V} {xs : List α} (h : DL K H vs xs) : vs.length = xs.length := by
  have := dpAll_len h
  simpa using this
theorem dpAll_get {vs : List V} : ∀ {ds : List PyData} {i : Nat} {d : PyData}, DqAll K H vs ds → ds[i]? = some d → ∃ v, vs[i]? = some v ∧ Dq K H v d := by
  induction vs with
  | nil => intro ds i d h e; cases h; simp at e
  | cons v vs ih =>
    intro ds i d h e
    cases h with
    | cons h1 h2 =>
      cases i with
      | zero => simp at e; subst e; exact ⟨v, rfl, h1⟩
      | succ i => simpa using ih h2 (by simpa using e)
theorem DL.get {vs : List V} {xs : List α} {i : Nat} {x : α} (h : DL K H vs xs) (e : xs[i]? = some x) : ∃ v, vs[i]? = some v ∧ D K H v x :=
  dpAll_get h (by simp [e])
theorem DL.at {vs : List V} {xs : List α} {i : Int} {x : α} (h : DL K H vs xs) (e : atI xs i = some x) : ∃ v, atI vs i = some v ∧ D K H v x := by
  unfold atI at e ⊢
  rw [h.len]
  cases q : ixN xs.length i with
  | none => rw [q] at e; cases e
  | some j =>
    rw [q] at e
    exact h.get e
theorem dpAll_append {vs ws : List V} {ds es : List PyData} (h : DqAll K H vs ds) (h' : DqAll K H ws es) : DqAll K H (vs ++ ws) (ds ++ es) := by
  induction vs generalizing ds with
  | nil => cases h; exact h'
  | cons v vs ih => cases h with | cons h1 h2 => exact .cons h1 (ih h2)
theorem DL.append {vs ws : List V} {xs ys : List α} (h : DL K H vs xs) (h' : DL K H ws ys) : DL K H (vs ++ ws) (xs ++ ys) := by
  unfold DL; rw [List.map_append]; exact dpAll_append h h'
theorem DL.push {vs : List V} {xs : List α} {v : V} {x : α} (h : DL K H vs xs) (h' : D K H v x) : DL K H (vs ++ [v]) (xs ++ [x]) :=
  h.append (.cons h' .nil)
theorem dpAll_set {vs : List V} {ds : List PyData} {v : V} {d : PyData} (h : DqAll K H vs ds) (h' : Dq K H v d) (j : Nat) : DqAll K H (vs.set j v) (ds.set j d) := by
  induction vs generalizing ds j with
  | nil => cases h; exact .nil
  | cons u vs ih =>
    cases h with
    | cons h1 h2 =>
      cases j with
      | zero => exact .cons h' h2
      | succ j => exact .cons h1 (ih h2 j)
theorem DL.set {vs : List V} {xs : List α} {v : V} {x : α} (h : DL K H vs xs) (h' : D K H v x) (j : Nat) : DL K H (vs.set j v) (xs.set j x) := by
  unfold DL; rw [List.map_set]; exact dpAll_set h h' j
theorem dpAll_take {vs : List V} {ds : List PyData} (h : DqAll K H vs ds) (n : Nat) : DqAll K H (vs.take n) (ds.take n) := by
  induction n generalizing vs ds with
  | zero => exact .nil
  | succ n ih => cases h with | nil => exact .nil | cons h1 h2 => exact .cons h1 (ih h2)
theorem dpAll_drop {vs : List V} {ds : List PyData} (h : DqAll K H vs ds) (n : Nat) : DqAll K H (vs.drop n) (ds.drop n) := by
  induction n generalizing vs ds with
  | zero => exact h
  | succ n ih => cases h with | nil => exact .nil | cons h1 h2 => exact ih h2
def cut {α : Type} (xs : List α) (lo hi : Option Int) : List α := (xs.drop (HT.sIx xs.length 0 lo)).take (HT.sIx xs.length xs.length hi - HT.sIx xs.length 0 lo)
theorem DL.cut {vs : List V} {xs : List α} (h : DL K H vs xs) (lo hi : Option Int) : DL K H (cutV vs lo hi) (Z.cut xs lo hi) := by
  unfold DL cutV Z.cut
  rw [List.map_take, List.map_drop, h.len]
  exact dpAll_take (dpAll_drop h _) _
theorem dl_ints {vs : List V} : ∀ {xs : List Int}, DL K H vs xs → vs = xs.map V.int := by
  induction vs with
  | nil => intro xs h; cases xs with | nil => rfl | cons x xs => cases h
  | cons v vs ih =>
    intro xs h
    cases xs with
    | nil => cases h
    | cons x xs => cases h with | cons h1 h2 => rw [ih h2, d_int h1]; rfl
theorem ints_dl : ∀ {xs : List Int}, DL K H (xs.map V.int) xs
  | [] => .nil
  | x :: xs => .cons (.int x) ints_dl
end
/-! ### the state: what stands for good (Ho), what may be written (rs) -/
/-- no tuple: tuples never change, so that none is written -/
def NotTup : HO → Prop
  | .tup _ => False
  | _ => True
structure Zs (rs : List (Addr × HO)) (H Ho : Hp) : Prop where
  le : Same Ho H
  rt : ∀ r ∈ rs, H r.1 = some r.2 ∧ Ho r.1 = none
  nd : (rs.map (·.1)).Nodup
  nt : ∀ r ∈ rs, NotTup r.2
section
variable {K : PySem.W.Frag} {H Ho H' Ho' : Hp} {rs : List (Addr × HO)} {p q : Addr} {o o' : HO}
theorem Zs.free (z : Zs rs H Ho) (h : H q = none) : Ho q = none := z.le.free h
theorem Zs.nin (z : Zs rs H Ho) (h : H q = none) : ∀ r ∈ rs, r.1 ≠ q := fun r hr e => by
  have := (z.rt r hr).1
  rw [e, h] at this
  cases this
/-- a new object that stays -/
theorem Zs.alloc (z : Zs rs H Ho) (h : H q = none) : Zs rs (upd H q o) (upd Ho q o) :=
  ⟨fun b x e => by
    by_cases hb : b = q
    · subst hb; rw [upd_same] at e ⊢; exact e
    · rw [upd_ne hb] at e ⊢; exact z.le b x e,
   fun r hr => by
    have ne := z.nin h r hr
    rw [upd_ne ne, upd_ne ne]; exact z.rt r hr, z.nd, z.nt⟩
theorem Same.new (h : Ho q = none) : Same Ho (upd Ho q o) := fun b x e => by
  rw [upd_ne (ne_of_none e h)]; exact e
/-- a new object that may be written -/
theorem Zs.root (z : Zs rs H Ho) (h : H q = none) (hn : NotTup o := by exact trivial) : Zs ((q, o) :: rs) (upd H q o) Ho :=
  ⟨fun b x e => by
    rw [upd_ne (ne_of_none (z.le b x e) h)]; exact z.le b x e,
   fun r hr => by
    rcases List.mem_cons.mp hr with e | hr
    · subst e; exact ⟨upd_same, z.free h⟩
    · rw [upd_ne (z.nin h r hr)]; exact z.rt r hr,
   List.nodup_cons.mpr ⟨fun hm => by
    obtain ⟨r, hr, e⟩ := List.mem_map.mp hm
    exact z.nin h r hr e, z.nd⟩, fun r hr => by
    rcases List.mem_cons.mp hr with e | hr
    · subst e; exact hn
    · exact z.nt r hr⟩
theorem Zs.put (z : Zs ((p, o) :: rs) H Ho) (hn : NotTup o' := by exact trivial) : Zs ((p, o') :: rs) (upd H p o') Ho :=
  ⟨fun b x e => by
    have np : b ≠ p := fun e' => by subst e'; rw [(z.rt _ List.mem_cons_self).2] at e; cases e
    rw [upd_ne np]; exact z.le b x e,
   fun r hr => by
    rcases List.mem_cons.mp hr with e | hr
    · subst e; exact ⟨upd_same, (z.rt _ List.mem_cons_self).2⟩
    · have np : r.1 ≠ p := fun e' => by
        have := (List.nodup_cons.mp z.nd).1
        exact this (List.mem_map.mpr ⟨r, hr, e'⟩)
      rw [upd_ne np]; exact z.rt r (List.mem_cons_of_mem _ hr), z.nd, fun r hr => by
    rcases List.mem_cons.mp hr with e | hr
    · subst e; exact hn
    · exact z.nt r (List.mem_cons_of_mem _ hr)⟩
theorem Zs.tail (z : Zs ((p, o) :: rs) H Ho) : Zs rs H Ho :=
  ⟨z.le, fun r hr => z.rt r (List.mem_cons_of_mem _ hr), (List.nodup_cons.mp z.nd).2, fun r hr => z.nt r (List.mem_cons_of_mem _ hr)⟩
theorem Zs.head (z : Zs ((p, o) :: rs) H Ho) : H p = some o := (z.rt _ List.mem_cons_self).1
theorem Zs.headN (z : Zs ((p, o) :: rs) H Ho) : Ho p = none := (z.rt _ List.mem_cons_self).2
/-- what may be written stands for good from now on -/
theorem Zs.freeze (z : Zs ((p, o) :: rs) H Ho) : Zs rs H (upd Ho p o) :=
  ⟨fun b x e => by
    by_cases hb : b = p
    · subst hb; rw [upd_same] at e; rw [← e]; exact z.head
    · rw [upd_ne hb] at e; exact z.le b x e,
   fun r hr => by
    have np : r.1 ≠ p := fun e' => (List.nodup_cons.mp z.nd).1 (List.mem_map.mpr ⟨r, hr, e'⟩)
    rw [upd_ne np]; exact z.rt r (List.mem_cons_of_mem _ hr), (List.nodup_cons.mp z.nd).2, fun r hr => z.nt r (List.mem_cons_of_mem _ hr)⟩
theorem Zs.perm {rs' : List (Addr × HO)} (z : Zs rs H Ho) (h : rs.Perm rs') : Zs rs' H Ho :=
  ⟨z.le, fun r hr => z.rt r (h.mem_iff.mpr hr), (h.map _).nodup_iff.mp z.nd, fun r hr => z.nt r (h.mem_iff.mpr hr)⟩
theorem perm1 {α : Type} {a b : α} {l : List α} : (a :: b :: l).Perm (b :: a :: l) := List.Perm.swap b a l
theorem Zs.sw1 {a b : Addr × HO} (z : Zs (a :: b :: rs) H Ho) : Zs (b :: a :: rs) H Ho := z.perm perm1
end
/-- a list that is read -/
def LV {α : Type} [Py α] (K : PySem.W.Frag) (rs : List (Addr × HO)) (Ho : Hp) (v : V) (xs : List α) : Prop :=
  ∃ p vs, v = .ref p ∧ DL K Ho vs xs ∧ (Ho p = some (HO.lst vs) ∨ (p, HO.lst vs) ∈ rs)
section
variable {K : PySem.W.Frag} {H Ho H' Ho' : Hp} {rs rs' : List (Addr × HO)} {α : Type} [Py α] {v : V} {xs : List α}
theorem LV.mo (h : LV K rs Ho v xs) (e : Same Ho Ho') : LV K rs Ho' v xs := by
  obtain ⟨p, vs, rfl, d, s⟩ := h
  exact ⟨p, vs, rfl, DL.mo d e, s.imp (fun s => e _ _ s) id⟩
theorem LV.sub (h : LV K rs Ho v xs) (e : ∀ r ∈ rs, r ∈ rs') : LV K rs' Ho v xs := by
  obtain ⟨p, vs, rfl, d, s⟩ := h
  exact ⟨p, vs, rfl, d, s.imp id (e _)⟩
theorem LV.cons {r : Addr × HO} (h : LV K rs Ho v xs) : LV K (r :: rs) Ho v xs := h.sub fun _ m => List.mem_cons_of_mem _ m
theorem LV.of (h : D K Ho v xs) : LV K rs Ho v xs := by
  cases h with
  | lst hs ha => exact ⟨_, _, rfl, ha, .inl hs⟩
theorem LV.rd (h : LV K rs Ho v xs) (z : Zs rs H Ho) : ∃ p vs, v = .ref p ∧ DL K Ho vs xs ∧ H p = some (HO.lst vs) := by
  obtain ⟨p, vs, rfl, d, s⟩ := h
  refine ⟨p, vs, rfl, d, ?_⟩
  rcases s with s | s
  · exact z.le _ _ s
  · exact (z.rt _ s).1
theorem LV.dp (h : LV K rs Ho v xs) (z : Zs rs H Ho) : D K H v xs := by
  obtain ⟨p, vs, rfl, d, s⟩ := h.rd z
  exact .lst s (DL.mo d z.le)
end
/-! ### more rules of the machine -/
section
variable {X : Cx}
def rCatS (K : PySem.W.Frag) : R2 := fun x y H Q => ∃ l b xs zs, x = .ref l ∧ y = .ref b ∧ SqL K H l xs ∧ SqL K H b zs ∧ xs.length + zs.length ≤ sizeLine ∧ ∀ p, H p = none → Q (.ref p) (upd H p (.lst (xs ++ zs)))
theorem op_catS : OpR X (binaryOp .Add) (rCatS X.K) := by
  intro pins s σ H x y v u Q I rx ry h
  obtain ⟨l, b, xs, zs, rfl, rfl, hH, hB, hz, q⟩ := h
  cases rx
  cases ry
  obtain ⟨its, r, pl, _⟩ := I.list hH
  obtain ⟨its2, r2, pl2, _⟩ := I.list hB
  have hl := r.length
  have hl2 := r2.length
  obtain ⟨⟨cls, dd, data, sl⟩, ho, hc, n, hd⟩ := pl.isList
  obtain ⟨⟨cls2, dd2, data2, sl2⟩, ho2, hc2, n2, hd2⟩ := pl2.isList
  simp only at hc hd hc2 hd2
  subst hc hd hc2 hd2
  have ea : its.toArray ++ its2.toArray = (its ++ its2).toArray := by simp
  refine concat_meets ⟨_, ho, rfl⟩ ⟨_, ho2, rfl⟩ noFill_list_add seq_list_add PySem.F.slot_list_add PySem.F.entry_list_add (PySem.F.args_list_add_2 _ _) (list_addW l b its.toArray its2.toArray n n2 dd dd2 sl sl2 (by simp only [List.size_toArray]; omega)) ⟨ho, ho2, ?_⟩
  rw [ea]
  exact ⟨.ref _, _, I.lnew (t' := s.toks) (r.append r2) (by rw [List.length_append]; omega), rfl, q _ I.fresh⟩
/-- xs[i] as the old value of xs[i] op= e -/
theorem get_list : PGet X (rIxL X.K) := by
  intro pins s σ H o i ov iv Q I ro ri h
  obtain ⟨p, xs, i, z, rfl, rfl, hq, he, q⟩ := h
  cases ro
  obtain ⟨t, rfl⟩ := ri
  obtain ⟨its, r, pl, hz⟩ := I.list hq
  obtain ⟨j, h1, h2, h3, h4, h5⟩ := atI_get he
  obtain ⟨w, ew, rw'⟩ := r.get h2
  have hl := r.length
  have hn := line63
  have fin : EP X pins σ Q w s := ⟨z, H, I, rw', q⟩
  by_cases h0 : 0 ≤ i
  · have hj : i.toNat = j := by
      rw [seqIndex_of h0 h5] at h1
      exact Option.some.inj h1
    exact wpAny_getItem_list pl.isList h0 (by omega) (by rw [hj]; simpa using ew) fin
  · have hj : (i + (its.toArray.size : Int)).toNat = j := by
      rw [seqIndex_neg (by omega) h4] at h1
      rw [List.size_toArray, ← hl]
      exact Option.some.inj h1
    exact wpAny_getItem_list_neg pl.isList (by omega) (by rw [List.size_toArray] <;> omega) (by omega) (by rw [hj]; simpa using ew) fin
end
end Z
/-! # Y1: readings step by step -/
namespace Z
open PySem PySem.Spec PyProof.Rows L2
/-! ### roots -/
theorem Zs.putI {rs : List (Addr × HO)} {H Ho : Hp} {n : Nat} {p : Addr} {o o' : HO} (z : Zs rs H Ho) (h : rs[n]? = some (p, o)) (hn : NotTup o' := by exact trivial) : Zs (rs.set n (p, o')) (upd H p o') Ho := by
  have hp := z.rt (p, o) (List.mem_of_getElem? h)
  have idx : ∀ m r, rs[m]? = some r → r.1 = p → m = n := fun m r hm e => by
    have h1 : (rs.map (·.1))[m]? = some p := by rw [List.getElem?_map, hm]; exact congrArg some e
    have h2 : (rs.map (·.1))[n]? = some p := by rw [List.getElem?_map, h]; rfl
    exact nd_ix z.nd h1 h2
  refine ⟨fun b x e => ?_, fun r hr => ?_, ?_, fun r hr => ?_⟩
  · have np : b ≠ p := fun e' => by subst e'; rw [hp.2] at e; cases e
    rw [upd_ne np]; exact z.le b x e
  · obtain ⟨m, hm⟩ := List.mem_iff_getElem?.mp hr
    rw [List.getElem?_set] at hm
    by_cases c : n = m
    · rw [if_pos c] at hm
      split at hm
      · cases hm; exact ⟨upd_same, hp.2⟩
      · cases hm
    · rw [if_neg c] at hm
      have np : r.1 ≠ p := fun e => c (idx m r hm e).symm
      rw [upd_ne np]; exact z.rt r (List.mem_of_getElem? hm)
  · have e : (rs.set n (p, o')).map (·.1) = rs.map (·.1) := by
      rw [List.map_set]
      apply List.ext_getElem?
      intro m
      rw [List.getElem?_set]
      split
      · rename_i c
        subst c
        rw [List.getElem?_map, h]
        have hl : n < (rs.map (·.1)).length := by rw [List.length_map]; exact (List.getElem?_eq_some_iff.mp h).1
        rw [if_pos hl]; rfl
      · rfl
    rw [e]; exact z.nd
  · rcases List.mem_or_eq_of_mem_set hr with q | q
    · exact z.nt r q
    · subst q; exact hn
theorem Zs.sub {rs rs' : List (Addr × HO)} {H Ho : Hp} (z : Zs rs H Ho) (h : rs'.Sublist rs) : Zs rs' H Ho :=
  ⟨z.le, fun r hr => z.rt r (h.subset hr), (h.map _).nodup z.nd, fun r hr => z.nt r (h.subset hr)⟩
/-- some of the roots, in any order -/
theorem Zs.re {rs rs' : List (Addr × HO)} {H Ho : Hp} (l amb : List (Addr × HO)) (is : List Nat) (z : Zs rs H Ho) (h1 : rs = l ++ amb := by rfl) (h2 : rs' = (is.filterMap fun i => l[i]?) ++ amb := by rfl) (hn : is.Nodup := by decide) : Zs rs' H Ho := by
  subst h1 h2
  have sub : ∀ r ∈ (is.filterMap fun i => l[i]?), r ∈ l := fun r hr => by
    obtain ⟨i, _, e⟩ := List.mem_filterMap.mp hr
    exact List.mem_of_getElem? e
  have sub2 : ∀ r ∈ (is.filterMap fun i => l[i]?) ++ amb, r ∈ l ++ amb := fun r hr => by
    rcases List.mem_append.mp hr with h | h
    · exact List.mem_append.mpr (.inl (sub r h))
    · exact List.mem_append.mpr (.inr h)
  refine ⟨z.le, fun r hr => z.rt r (sub2 r hr), ?_, fun r hr => z.nt r (sub2 r hr)⟩
  · have nd := z.nd
    rw [List.map_append, List.nodup_append] at nd ⊢
    refine ⟨?_, nd.2.1, fun a ha b hb => ?_⟩
    · rw [List.map_filterMap]
      refine List.Pairwise.filterMap _ (fun i j hij a ha b hb e => ?_) hn
      subst e
      simp only [Option.map_eq_some_iff] at ha hb
      obtain ⟨r, e1, e2⟩ := ha
      obtain ⟨q, e3, e4⟩ := hb
      refine hij (nd_ix nd.1 (show (l.map (·.1))[i]? = some a from ?_) (show (l.map (·.1))[j]? = some a from ?_))
      · rw [List.getElem?_map, e1]; exact congrArg some e2
      · rw [List.getElem?_map, e3]; exact congrArg some e4
    · obtain ⟨r, hr, rfl⟩ := List.mem_map.mp ha
      exact nd.2.2 _ (List.mem_map.mpr ⟨r, sub r hr, rfl⟩) b hb
section
variable {K : PySem.W.Frag} {rs r0 : List (Addr × HO)} {σ : L2.St} {H Ho : Hp} {ta tb tc te : TE} {tt tu : TT} {ts : TA} {Q : VK} {QB : Bool → Hp → Prop} {u t1 t2 : TS} {D : Ends} {v w : V} {i : Nat} {α β γ : Type} [Py α] [Py β] {Φ : γ → Prop} {p : Addr}
theorem frz {ws : List V} {xs : List α} (z : Zs ((p, .lst ws) :: rs) H Ho) (d : DL K Ho ws xs) : ∃ Ho', Same Ho Ho' ∧ Zs rs H Ho' ∧ Z.D K Ho' (.ref p) xs := by
  have e : Same Ho (upd Ho p (.lst ws)) := Same.new z.headN
  exact ⟨_, e, z.freeze, .lst upd_same (DL.mo d e)⟩
/-! ### expressions -/
theorem y_var (h : σ[i]? = some (some v)) (k : Q v H) : tVar i σ H Q := ⟨v, h, k⟩
theorem y_c (k : Q v H) : tC v σ H Q := k
theorem y_op {r : R2} (k : ta σ H fun x H1 => tb σ H1 fun y H2 => r x y H2 Q) : tOp r ta tb σ H Q := k
theorem y_un {r : V → Hp → VK → Prop} (k : ta σ H fun x H1 => r x H1 Q) : tUn r ta σ H Q := k
theorem y_test (k : te σ H fun x H1 => ∃ c, x = .bl c ∧ QB c H1) : tTest te σ H QB := k
theorem y_tB (k : te σ H fun x H1 => ∃ c, x = .bl c ∧ QB c H1) : tB te σ H QB := k
theorem y_not (k : tt σ H fun c H1 => QB (!c) H1) : tNot tt σ H QB := k
theorem y_andV (k : ta σ H fun x H1 => ∃ c, x = .bl c ∧ if c = true then tb σ H1 Q else Q (.bl false) H1) : tAndV ta tb σ H Q := k
theorem y_orV (k : ta σ H fun x H1 => ∃ c, x = .bl c ∧ if c = true then Q (.bl true) H1 else tb σ H1 Q) : tOrV ta tb σ H Q := k
theorem y_and (k : tt σ H fun c H1 => if c = true then tu σ H1 QB else QB false H1) : tAnd tt tu σ H QB := k
theorem y_or (k : tt σ H fun c H1 => if c = true then QB true H1 else tu σ H1 QB) : tOr tt tu σ H QB := k
theorem y_cb {r : List V → Hp → VK → Prop} (k : ts σ H fun vs H1 => r vs H1 Q) : tCB r ts σ H Q := k
theorem y_nil {QL : List V → Hp → Prop} (k : QL [] H) : tNil σ H QL := k
theorem y_cons {QL : List V → Hp → Prop} (k : ta σ H fun x H1 => ts σ H1 fun xs H2 => QL (x :: xs) H2) : tCons ta ts σ H QL := k
theorem y_sl {r : V → Option Int → Option Int → Hp → VK → Prop} {tl th : TO} (k : te σ H fun x H1 => tl σ H1 fun l H2 => th σ H2 fun u H3 => r x l u H3 Q) : tSl r te tl th σ H Q := k
theorem y_noPart {QO : Option Int → Hp → Prop} (k : QO none H) : tNoPart σ H QO := k
theorem y_part {QO : Option Int → Hp → Prop} (k : te σ H fun x H1 => ∃ i, x = .int i ∧ QO (some i) H1) : tPart te σ H QO := k
theorem y_call {sp : Sp} {E : XK} (k : ts σ H fun vs H1 => sp (vs ++ []) H1 Q E) : tCall sp [] E ts σ H Q := k
theorem y_bm {T : String} {r : V → List V → Hp → VK → Prop} (k : te σ H fun x H1 => tyV K T x H1 ∧ ts σ H1 fun xs H2 => r x xs H2 Q) : tBM K T r te ts σ H Q := k
theorem y_bm0 {T : String} {r : V → List V → Hp → VK → Prop} (k : te σ H fun x H1 => tyV K T x H1 ∧ r x [] H1 Q) : tBM0 K T r te σ H Q := k
/-! ### values -/
theorem y_i0 {g : Int → Int → V} {a b : Int} (k : Q (g a b) H) : rI0 g (.int a) (.int b) H Q := ⟨a, b, rfl, rfl, k⟩
theorem y_ig {C : Int → Int → Prop} {g : Int → Int → V} {a b : Int} (c : C a b) (k : Q (g a b) H) : rI C g (.int a) (.int b) H Q := ⟨a, b, rfl, rfl, c, k⟩
theorem y_neg {a : Int} (k : Q (.int (-a)) H) : rU (fun i => .int (-i)) (.int a) H Q := ⟨a, rfl, k⟩
theorem y_eqi {a b : Int} (k : Q (.bl (decide (a = b))) H) : rEq (.int a) (.int b) H Q := ⟨rfl, by
  have e : decide (V.int a = V.int b) = decide (a = b) := by simp
  rw [e]; exact k⟩
theorem y_nei {a b : Int} (k : Q (.bl (!decide (a = b))) H) : rNe (.int a) (.int b) H Q := ⟨rfl, by
  have e : decide (V.int a = V.int b) = decide (a = b) := by simp
  rw [e]; exact k⟩
def eqD {β γ : Type} [Py β] [Py γ] (x : β) (y : γ) : Bool := PyData.eqv (toPy x) (toPy y)
def okD {β : Type} [Py β] (x : β) : Prop := SeqAt.shaped (toPy x) = true
theorem y_eqD {x : α} {y : β} (d1 : Z.D K H v x) (d2 : Z.D K H w y) (hg : okD x ∧ okD y) (k : Q (.bl (eqD x y)) H) : rEqD K v w H Q := ⟨_, _, Dq.dp _ _ (shp hg.1) d1, Dq.dp _ _ (shp hg.2) d2, hg.1, hg.2, k⟩
theorem y_neD {x : α} {y : β} (d1 : Z.D K H v x) (d2 : Z.D K H w y) (hg : okD x ∧ okD y) (k : Q (.bl (!eqD x y)) H) : rNeD K v w H Q := ⟨_, _, Dq.dp _ _ (shp hg.1) d1, Dq.dp _ _ (shp hg.2) d2, hg.1, hg.2, k⟩
def inD (x : α) (ys : List β) : Bool := ys.any fun y => eqD y x
theorem any_map {x : α} : ∀ {ys : List β}, ((ys.map Py.toPy).any fun z => PyData.eqv z (toPy x)) = inD x ys
  | [] => rfl
  | y :: ys => by
    show (_ || _) = (_ || _)
    rw [any_map]; rfl
theorem y_notInD {x : α} {ys : List β} (d1 : Z.D K H v x) (d2 : Z.D K H w ys) (hg : okD x ∧ okD ys) (k : Q (.bl (!inD x ys)) H) : rNotInD K v w H Q := ⟨_, _, Dq.dp _ _ (shp hg.1) d1, Dq.dp _ _ (shp hg.2) d2, hg.1, hg.2, by
  have e := any_map (x := x) (ys := ys)
  exact e ▸ k⟩
theorem dec_non {x : Option β} (d : Z.D K H v x) (hg : ∀ b : β, x = some b → toPy b ≠ .none) : decide (v = .non) = x.isNone := by
  cases x with
  | none => cases d; rfl
  | some b =>
    rw [decide_eq_false]
    · rfl
    · intro ev
      subst ev
      have d3 : Dq K H V.non (toPy b) := d
      have nb := hg b rfl
      generalize toPy b = pb at d3 nb
      cases d3
      exact nb rfl
/-! lists read -/
theorem y_ixL {xs : List α} {i : Int} {f : α → W γ} (d : LV K rs Ho v xs) (z : Zs rs H Ho) (hw : (W.bind (W.opt (atI xs i)) f).run Φ) (k : ∀ t w, Z.D K Ho w t → (f t).run Φ → Q w H) : rIxL K v (.int i) H Q := by
  obtain ⟨p, vs, rfl, d, s⟩ := d.rd z
  obtain ⟨a, ea, hw⟩ := hw
  obtain ⟨w, ew, dw⟩ := DL.at d ea
  exact ⟨p, vs, i, w, rfl, rfl, s, ew, k a w dw hw⟩
theorem y_ixT {x : α} {y : β} {i : Int} (d : Z.D K Ho v x) (z : Zs rs H Ho) (hj : ∃ ds, toPy x = .tuple ds ∧ atI ds i = some (toPy y)) (k : ∀ w, Z.D K Ho w y → Q w H) : rIxT K v (.int i) H Q := by
  obtain ⟨ds, e1, e3⟩ := hj
  have d : Dq K Ho v (toPy x) := d
  rw [e1] at d
  cases d with
  | tup hs ha =>
    have hl := dpAll_len ha
    unfold atI at e3
    rw [← hl] at e3
    cases q : ixN _ i with
    | none => rw [q] at e3; cases e3
    | some j =>
      rw [q] at e3
      obtain ⟨w, ew, dw⟩ := dpAll_get ha e3
      refine ⟨_, _, _, w, rfl, rfl, SqT.of (z.le _ _ hs), ?_, k w dw⟩
      unfold atI
      rw [q]
      exact ew
theorem y_slL {xs : List α} {l h : Option Int} (d : LV K rs Ho v xs) (z : Zs rs H Ho) (k : ∀ H' p ws, Zs ((p, .lst ws) :: rs) H' Ho → DL K Ho ws (Z.cut xs l h) → Q (.ref p) H') : rSlL K v l h H Q := by
  obtain ⟨p, vs, rfl, d, s⟩ := d.rd z
  exact ⟨p, vs, rfl, s, fun q hq => k _ q _ (z.root hq) (DL.cut d l h)⟩
theorem y_cat {xs ys : List α} (d1 : LV K rs Ho v xs) (d2 : LV K rs Ho w ys) (z : Zs rs H Ho) (hg : xs.length + ys.length ≤ sizeLine) (k : ∀ H' p ws, Zs ((p, .lst ws) :: rs) H' Ho → DL K Ho ws (xs ++ ys) → Q (.ref p) H') : rCatS K v w H Q := by
  obtain ⟨p, vs, rfl, d, s⟩ := LV.rd d1 z
  obtain ⟨p', vs', rfl, d', s'⟩ := LV.rd d2 z
  exact ⟨p, p', vs, vs', rfl, rfl, s, s', by rw [d.len, d'.len]; exact hg, fun q hq => k _ _ _ (z.root hq) (d.append d')⟩
theorem rep_dl {vs : List V} {xs : List α} (d : DL K Ho vs xs) (n : Nat) : DL K Ho (List.replicate n vs).flatten (List.replicate n xs).flatten := by
  induction n with
  | zero => exact .nil
  | succ n ih =>
    rw [List.replicate_succ, List.flatten_cons, List.replicate_succ, List.flatten_cons]
    exact d.append ih
def repG {α : Type} (xs : List α) (k : Int) : Prop := -(2 ^ 63) ≤ k ∧ k < 2 ^ 63 ∧ xs.length * k.toNat ≤ sizeLine
def repL {α : Type} (xs : List α) (k : Int) : List α := (List.replicate k.toNat xs).flatten
/-- the new list xs, repeated -/
theorem y_rep {ws : List V} {xs : List α} {n : Int} (z : Zs ((p, .lst ws) :: rs) H Ho) (d : DL K Ho ws xs) (hg : repG xs n) (k : ∀ H' q ws', Zs ((q, .lst ws') :: rs) H' Ho → DL K Ho ws' (repL xs n) → Q (.ref q) H') : rRep (.ref p) (.int n) H Q :=
  ⟨p, n, ws, rfl, rfl, z.head, hg.1, hg.2.1, by rw [DL.len d]; exact hg.2.2, fun q hq => k _ q _ (z.root hq).sw1.tail (rep_dl d _)⟩
theorem y_lstk {vs : List V} {xs : List α} (z : Zs rs H Ho) (d : DL K Ho vs xs) (hl : vs.length ≤ sizeLine) (k : ∀ H' p ws, Zs ((p, .lst ws) :: rs) H' Ho → DL K Ho ws xs → Q (.ref p) H') : vs.length ≤ sizeLine ∧ ∀ p, H p = none → Q (.ref p) (upd H p (.lst vs)) :=
  ⟨hl, fun p hp => k _ p _ (z.root hp) d⟩
theorem y_tupk {vs : List V} {x : α} (z : Zs rs H Ho) (hl : vs.length ≤ sizeLine) (ds : List PyData) (hx : toPy x = .tuple ds) (d : DqAll K Ho vs ds) (k : ∀ p H' Ho', Same Ho Ho' → Zs rs H' Ho' → Z.D K Ho' (.ref p) x → Q (.ref p) H') :
    vs.length ≤ sizeLine ∧ ∀ p, H p = none → Q (.ref p) (upd H p (.tup vs)) :=
  ⟨hl, fun p hp => by
    have e3 : Same Ho (upd Ho p (.tup vs)) := Same.new (z.free hp)
    refine k p _ _ e3 (z.alloc hp) ?_
    show Dq K _ _ (toPy x)
    rw [hx]
    exact .tup upd_same (dpAll_mono e3 _ _ d)⟩
/-! ### statements -/
theorem y_asgG {g : TG} (k : te σ H fun v H1 => g v σ H1 fun σ' H' => u D σ' H') : tSeq (tAsg te g) u D σ H := k
theorem y_drop (k : te σ H fun _ H1 => u D σ H1) : tSeq (tDrop te) u D σ H := k
theorem y_ret (k : te σ H D.rt) : tSeq (tRet te) u D σ H := k
theorem y_ifS (k : tt σ H fun b H1 => if b = true then t1 { D with nx := u D } σ H1 else t2 { D with nx := u D } σ H1) : tSeq (tIfS tt t1 t2) u D σ H := k
theorem y_cases {A B : W γ} {b : Bool} {X Y : Prop} (hw : (W.ite b A B).run Φ) (h1 : b = true → A.run Φ → X) (h2 : b = false → B.run Φ → Y) : if b = true then X else Y := by
  cases b with
  | true => exact iteT (h1 rfl (hw.1 rfl))
  | false => exact iteF (h2 rfl (hw.2 rfl))
theorem run_ret {β : Type} {a : β} {Φ : β → Prop} (h : (W.ret a).run Φ) : Φ a := h
def apd {α : Type} (xs : List α) (x : α) : W (List α) := W.guard (xs.length < sizeLine) (W.ret (xs ++ [x]))
def sti {α : Type} (xs : List α) (i : Int) (y : α) : W (List α) := W.bind (W.opt (ixN xs.length i)) fun j => W.ret (xs.set j y)
/-- xs.pop(i) -/
def popI {α : Type} (xs : List α) (i : Int) : W (α × List α) := W.guard (-(2 ^ 63) ≤ i ∧ i < 2 ^ 63) (W.bind (W.opt (ixN xs.length i)) fun j => W.bind (W.opt xs[j]?) fun x => W.ret (x, xs.eraseIdx j))
theorem ixN_seq {n : Nat} {i : Int} {j : Nat} (h : ixN n i = some j) : seqIndex? i n = some j := by
  unfold ixN at h
  by_cases c : 0 ≤ i
  · rw [if_pos c] at h
    split at h
    · rename_i hl
      have e : i.toNat = j := Option.some.inj h
      rw [seqIndex_of c (by omega)]
      exact h
    · cases h
  · rw [if_neg c] at h
    split at h
    · rename_i hl
      rw [seqIndex_neg (by omega) (by omega)]
      rw [← h]
    · cases h
theorem dpAll_erase {vs : List V} {ds : List PyData} (h : DqAll K H vs ds) (j : Nat) : DqAll K H (vs.eraseIdx j) (ds.eraseIdx j) := by
  induction vs generalizing ds j with
  | nil => cases h; exact .nil
  | cons u vs ih =>
    cases h with
    | cons h1 h2 =>
      cases j with
      | zero => exact h2
      | succ j => exact .cons h1 (ih h2 j)
theorem map_erase {α β : Type} (f : α → β) : ∀ (xs : List α) (j : Nat), (xs.eraseIdx j).map f = (xs.map f).eraseIdx j
  | [], _ => rfl
  | x :: xs, 0 => rfl
  | x :: xs, j + 1 => by simp [map_erase f xs j]
theorem y_popI {n : Nat} {ws : List V} {xs : List α} {i : Int} {f : α × List α → W γ} (z : Zs rs H Ho) (hn : rs[n]? = some (p, .lst ws)) (d : DL K Ho ws xs) (hw : (W.bind (popI xs i) f).run Φ) (k : ∀ t xs' w ws' H', Zs (rs.set n (p, .lst ws')) H' Ho → DL K Ho ws' xs' → Z.D K Ho w t → (f (t, xs')).run Φ → Q w H') : rPopAt (.ref p) [.int i] H Q := by
  have hp := z.rt _ (List.mem_of_getElem? hn)
  obtain ⟨⟨g1, g2⟩, j, ej, t, et, hw⟩ := hw
  obtain ⟨w, ew, dw⟩ := DL.get d et
  refine ⟨p, ws, i, j, w, rfl, rfl, hp.1, g1, g2, ixN_seq (by rw [DL.len d]; exact ej), ew, k t _ w _ _ (z.putI hn) ?_ dw hw⟩
  show DqAll _ _ _ ((xs.eraseIdx j).map Py.toPy)
  rw [map_erase]
  exact dpAll_erase d j
theorem y_gsub {to ti : TE} {t : TSet} {QS : L2.St → Hp → Prop} (k : to σ H fun o H1 => ti σ H1 fun i H2 => t o i v H2 fun H3 => QS σ H3) : gSub to ti t v σ H QS := k
theorem y_augS {to ti : TE} {tget : V → V → Hp → VK → Prop} {tip : TIp} {tset : TSet} (k : to σ H fun o H1 => ti σ H1 fun i H2 => tget o i H2 fun x H3 => te σ H3 fun y H4 => tip x y H4 fun z H5 => tset o i z H5 fun H6 => u D σ H6) : tSeq (tAugS to ti te tget tip tset) u D σ H := k
theorem y_ip {f : Int → Int → Int} {a b : Int} (k : Q (.int (f a b)) H) : ipI f (.int a) (.int b) H Q := ⟨a, b, rfl, rfl, k⟩
end
end Z
/-! # Y2: what is walked, loops, comprehensions, joins, errors, built-ins -/
namespace Z
open PySem PySem.Spec PyProof.Rows L2
/-! ### what is walked -/
def rng (a b : Int) : List Int := (List.range (b - a).toNat).map fun k : Nat => a + k
def rngOk (a b : Int) : Prop := -(2 ^ 62) ≤ a ∧ a < 2 ^ 62 ∧ -(2 ^ 62) ≤ b ∧ b < 2 ^ 62
/-- the turns of an iterator, by the items' data -/
def Trn {α : Type} [Py α] (K : PySem.W.Frag) (r0 : List (Addr × HO)) (J : It) (xs : List α) (Ho2 : Hp) : Prop :=
  ∀ i rs' H' Ho', Same Ho2 Ho' → Zs rs' H' Ho' → (∀ r ∈ r0, r ∈ rs') → (∀ a, xs[i]? = some a → J.go i H' ∧ ∀ x H'', J.yld i H' x H'' → ∃ Ho'', Same Ho' Ho'' ∧ (∀ rs, Zs rs H' Ho' → Zs rs H'' Ho'') ∧ D K Ho'' x a) ∧ (xs.length ≤ i → J.stop i H')
section
variable {K : PySem.W.Frag} {rs r0 : List (Addr × HO)} {σ : L2.St} {H Ho : Hp} {ta tb tc te tl : TE} {tt tu : TT} {α β γ : Type} [Py α] [Py β] {p : Addr} {Φ : γ → Prop} {R : It → Hp → Prop} {v u : V}
theorem src_stay {q : Addr} {ys : List V} {rs' : List (Addr × HO)} {H Ho' : Hp} (s : Ho q = some (HO.lst ys) ∨ (q, HO.lst ys) ∈ rs) (e : Same Ho Ho') (z : Zs rs' H Ho') (sub : ∀ r ∈ rs, r ∈ rs') : H q = some (HO.lst ys) := by
  rcases s with s | s
  · exact z.le _ _ (e _ _ s)
  · exact (z.rt _ (sub _ s)).1
theorem trn_list {q : Addr} {xs : List α} {v : V} (h : LV K r0 Ho v xs) (hv : v = .ref q) : Trn K r0 (Itl K q) xs Ho := by
  intro i rs' H' Ho' e z sub
  obtain ⟨q', ys, rfl, d, s⟩ := h
  cases hv
  have sq : SqL K H' q ys := src_stay s e z sub
  refine ⟨fun a ha => ?_, fun hl => ⟨ys, sq, by rw [d.len]; exact hl⟩⟩
  obtain ⟨w, ew, dw⟩ := d.get ha
  refine ⟨⟨ys, w, sq, ew⟩, fun x H'' y => ?_⟩
  obtain ⟨rfl, y⟩ := y
  have ex : x = w := Option.some.inj ((y _ sq).symm.trans ew)
  subst ex
  exact ⟨Ho', Same.refl _, fun _ z => z, D.mo dw e⟩
theorem y_srcL {xs : List α} (d : LV K r0 Ho v xs) (hs : ∀ r ∈ r0, r ∈ rs) (z : Zs rs H Ho) (k : ∀ J, Trn K r0 J xs Ho → R J H) : ∃ a, v = .ref a ∧ (∃ ys, SqL K H a ys) ∧ R (Itl K a) H := by
  obtain ⟨q, ys, rfl, dd, s⟩ := id d
  exact ⟨q, rfl, ⟨ys, src_stay s (Same.refl _) z hs⟩, k _ (trn_list d rfl)⟩
theorem trn_tup {q : Addr} {xs : List α} {ys : List V} (s : Ho q = some (.tup ys)) (d : DL K Ho ys xs) : Trn K [] (Itt K q) xs Ho := by
  intro i rs' H' Ho' e z sub
  have sq : SqT K H' q ys := SqT.of (z.le _ _ (e _ _ s))
  refine ⟨fun a ha => ?_, fun hl => ⟨ys, sq, by rw [d.len]; exact hl⟩⟩
  obtain ⟨w, ew, dw⟩ := d.get ha
  refine ⟨⟨ys, w, sq, ew⟩, fun x H'' y => ?_⟩
  obtain ⟨rfl, y⟩ := y
  have ex : x = w := Option.some.inj ((y _ sq).symm.trans ew)
  subst ex
  exact ⟨Ho', Same.refl _, fun _ z => z, D.mo dw e⟩
/-- over a tuple of things of one kind -/
theorem y_srcT {x : β} {xs : List α} (d : D K Ho v x) (hf : toPy x = .tuple (xs.map Py.toPy)) (z : Zs rs H Ho) (k : ∀ J, Trn K [] J xs Ho → R J H) : ∃ a, v = .ref a ∧ (∃ ys, SqT K H a ys) ∧ R (Itt K a) H := by
  have d : Dq K Ho v (toPy x) := d
  rw [hf] at d
  cases d with
  | tup hs ha => exact ⟨_, rfl, ⟨_, SqT.of (z.le _ _ hs)⟩, k _ (trn_tup hs ha)⟩
theorem rng_get {a b : Int} {i : Nat} {x : Int} (h : (rng a b)[i]? = some x) : i < (b - a).toNat ∧ x = a + i := by
  unfold rng at h
  rw [List.getElem?_map] at h
  cases e : (List.range (b - a).toNat)[i]? with
  | none => rw [e] at h; cases h
  | some k =>
    rw [e] at h
    obtain ⟨hl, ek⟩ := List.getElem?_eq_some_iff.mp e
    rw [List.getElem_range] at ek
    subst ek
    rw [List.length_range] at hl
    exact ⟨hl, (Option.some.inj h).symm⟩
theorem rng_len {a b : Int} : (rng a b).length = (b - a).toNat := by unfold rng; simp
theorem trn_range {a b : Int} : Trn K [] (Itr a (b - a).toNat) (rng a b) Ho := by
  intro i rs' H' Ho' e z sub
  refine ⟨fun x hx => ?_, fun hl => ?_⟩
  · obtain ⟨hi, rfl⟩ := rng_get hx
    refine ⟨hi, fun y H'' yy => ?_⟩
    obtain ⟨rfl, rfl⟩ := yy
    exact ⟨Ho', Same.refl _, fun _ z => z, .int _⟩
  · rw [rng_len] at hl
    exact hl
theorem y_srcR1 {n : Int} (hg : rngOk 0 n) (k : ∀ J, Trn K [] J (rng 0 n) Ho → R J H) : ∃ j : Int, [V.int n] = [.int j] ∧ -(2 ^ 62) ≤ j ∧ j < 2 ^ 62 ∧ R (Itr 0 j.toNat) H := by
  refine ⟨n, rfl, hg.2.2.1, hg.2.2.2, ?_⟩
  have e : n.toNat = (n - 0).toNat := by rw [Int.sub_zero]
  rw [e]
  exact k _ trn_range
/-! ### loops -/
theorem drop_cons {γ : Type} {xs : List γ} {i : Nat} {x : γ} (h : xs[i]? = some x) : xs.drop i = x :: xs.drop (i + 1) := by
  obtain ⟨hi, e⟩ := List.getElem?_eq_some_iff.mp h
  rw [List.drop_eq_getElem_cons hi, e]
def ForG (g : TG) (tb u : TS) (D : Ends) (σ : L2.St) (J : It) (H1 : Hp) : Prop := ∃ W : Nat → Nat → L2.St → Hp → Prop, (∃ m, W 0 m σ H1) ∧ ∀ i m σ H, W i m σ H →
  (J.stop i H ∧ u D σ H) ∨ (J.go i H ∧ ∃ N : L2.St → Hp → Prop, (∀ σ' H', N σ' H' → ∃ m', m' < m ∧ W (i + 1) m' σ' H') ∧ ∀ x H', J.yld i H x H' → g x σ H' fun σ2 H2 => tb { D with nx := N, ct := N, bk := u D } σ2 H2)
variable {g : TG} {u1 tb' : TS} {D : Ends}
theorem y_for {wi_ : TI} (k : wi_ σ H fun J H1 => ForG g tb' u1 D σ J H1) : tSeq (tFor wi_ g tb') u1 D σ H := k
theorem y_forL {S : Type} {J : It} {xs : List α} {s0 : S} {body : α → S → W S} {f : S → W γ} (T : Trn K r0 J xs Ho) (hw : (W.bind (W.forL xs s0 body) f).run Φ) (I : S → L2.St → Hp → Hp → Prop) (i0 : I s0 σ H Ho)
    (hz : ∀ s σ' H' Ho', I s σ' H' Ho' → ∃ rs', Zs rs' H' Ho' ∧ ∀ r ∈ r0, r ∈ rs')
    (im : ∀ s σ' H' Ho' H'' Ho'', I s σ' H' Ho' → Same Ho' Ho'' → (∀ rs, Zs rs H' Ho' → Zs rs H'' Ho'') → I s σ' H'' Ho'')
    (step : ∀ a x s σ' H' Ho' (N : L2.St → Hp → Prop), Same Ho Ho' → I s σ' H' Ho' → Z.D K Ho' x a → (body a s).run (fun s' => ∀ σ'' H'' Ho'', Same Ho' Ho'' → I s' σ'' H'' Ho'' → N σ'' H'') → g x σ' H' fun σ2 H2 => tb' { D with nx := N, ct := N, bk := u1 D } σ2 H2)
    (done : ∀ s σ' H' Ho', Same Ho Ho' → I s σ' H' Ho' → (f s).run Φ → u1 D σ' H') : ForG g tb' u1 D σ J H := by
  refine ⟨fun i m σ' H' => m = xs.length - i ∧ i ≤ xs.length ∧ ∃ s Ho', Same Ho Ho' ∧ I s σ' H' Ho' ∧ (W.bind (W.forL (xs.drop i) s body) f).run Φ, ⟨xs.length, by simp, Nat.zero_le _, s0, Ho, Same.refl _, i0, hw⟩, ?_⟩
  rintro i m σ' H' ⟨rfl, hi, s, Ho', e', hI, hw⟩
  obtain ⟨rs', z', sub⟩ := hz s σ' H' Ho' hI
  have tr := T i rs' H' Ho' e' z' sub
  by_cases hlt : i < xs.length
  · refine .inr ?_
    have hxi := List.getElem?_eq_getElem hlt
    obtain ⟨go, yl⟩ := tr.1 _ hxi
    rw [drop_cons hxi] at hw
    refine ⟨go, fun σ'' H'' => ∃ s' Ho'', Same Ho Ho'' ∧ I s' σ'' H'' Ho'' ∧ (W.bind (W.forL (xs.drop (i + 1)) s' body) f).run Φ, fun σ'' H'' hN => ⟨xs.length - (i + 1), by omega, rfl, hlt, hN⟩, fun x H'' y => ?_⟩
    obtain ⟨Ho3, e3, z3, dx⟩ := yl x H'' y
    refine step _ x s σ' H'' Ho3 _ (e'.trans e3) (im _ _ _ _ _ _ hI e3 z3) dx ?_
    exact W.mono _ _ _ (fun s' hs' σ4 H4 Ho4 e4 hI4 => ⟨s', Ho4, (e'.trans e3).trans e4, hI4, hs'⟩) (show (body xs[i] s).run (fun s' => (W.bind (W.forL (xs.drop (i + 1)) s' body) f).run Φ) from hw)
  · have e : i = xs.length := by omega
    subst e
    rw [List.drop_length] at hw
    exact .inl ⟨tr.2 (Nat.le_refl _), done s σ' H' Ho' e' hI hw⟩
theorem y_forC {S ρ : Type} {J : It} {xs : List α} {s0 : S} {body : α → S → W (Ctl ρ S)} {f : S → W ρ} {Φ : ρ → Prop} (T : Trn K r0 J xs Ho) (hw : (W.bind (W.forC xs s0 body) fun c => W.after c f).run Φ) (I : S → L2.St → Hp → Hp → Prop) (i0 : I s0 σ H Ho)
    (hz : ∀ s σ' H' Ho', I s σ' H' Ho' → ∃ rs', Zs rs' H' Ho' ∧ ∀ r ∈ r0, r ∈ rs')
    (im : ∀ s σ' H' Ho' H'' Ho'', I s σ' H' Ho' → Same Ho' Ho'' → (∀ rs, Zs rs H' Ho' → Zs rs H'' Ho'') → I s σ' H'' Ho'')
    (step : ∀ a x s σ' H' Ho' (N B : L2.St → Hp → Prop), Same Ho Ho' → I s σ' H' Ho' → Z.D K Ho' x a → (body a s).run (CtlP (fun s' => ∀ σ'' H'' Ho'', Same Ho' Ho'' → I s' σ'' H'' Ho'' → N σ'' H'') (fun s' => ∀ σ'' H'' Ho'', Same Ho' Ho'' → I s' σ'' H'' Ho'' → B σ'' H'') Φ) → g x σ' H' fun σ2 H2 => tb' { D with nx := N, ct := N, bk := B } σ2 H2)
    (done : ∀ s σ' H' Ho', Same Ho Ho' → I s σ' H' Ho' → (f s).run Φ → u1 D σ' H') : ForG g tb' u1 D σ J H := by
  refine ⟨fun i m σ' H' => m = xs.length - i ∧ i ≤ xs.length ∧ ∃ s Ho', Same Ho Ho' ∧ I s σ' H' Ho' ∧ (W.bind (W.forC (xs.drop i) s body) fun c => W.after c f).run Φ, ⟨xs.length, by simp, Nat.zero_le _, s0, Ho, Same.refl _, i0, hw⟩, ?_⟩
  rintro i m σ' H' ⟨rfl, hi, s, Ho', e', hI, hw⟩
  obtain ⟨rs', z', sub⟩ := hz s σ' H' Ho' hI
  have tr := T i rs' H' Ho' e' z' sub
  by_cases hlt : i < xs.length
  · refine .inr ?_
    have hxi := List.getElem?_eq_getElem hlt
    obtain ⟨go, yl⟩ := tr.1 _ hxi
    rw [drop_cons hxi] at hw
    refine ⟨go, fun σ'' H'' => ∃ s' Ho'', Same Ho Ho'' ∧ I s' σ'' H'' Ho'' ∧ (W.bind (W.forC (xs.drop (i + 1)) s' body) fun c => W.after c f).run Φ, fun σ'' H'' hN => ⟨xs.length - (i + 1), by omega, rfl, hlt, hN⟩, fun x H'' y => ?_⟩
    obtain ⟨Ho3, e3, z3, dx⟩ := yl x H'' y
    refine step _ x s σ' H'' Ho3 _ (u1 D) (e'.trans e3) (im _ _ _ _ _ _ hI e3 z3) dx ?_
    refine W.mono _ _ _ (fun c hc => ?_) (show (body xs[i] s).run _ from hw)
    cases c with
    | nx s' => exact fun σ4 H4 Ho4 e4 hI4 => ⟨s', Ho4, (e'.trans e3).trans e4, hI4, hc⟩
    | bk s' => exact fun σ4 H4 Ho4 e4 hI4 => done s' σ4 H4 Ho4 ((e'.trans e3).trans e4) hI4 hc
    | rt r => exact hc
  · have e : i = xs.length := by omega
    subst e
    rw [List.drop_length] at hw
    exact .inl ⟨tr.2 (Nat.le_refl _), done s σ' H' Ho' e' hI hw⟩
theorem y_while {S ρ : Type} {s0 : S} {body : S → W (Ctl ρ S)} {f : S → W ρ} {Φ : ρ → Prop} (hw : (W.bind (W.whileL s0 body) fun c => W.after c f).run Φ) (I : S → L2.St → Hp → Hp → Prop) (i0 : I s0 σ H Ho)
    (step : ∀ s σ' H' Ho' (N B : L2.St → Hp → Prop) (E : (L2.St → Hp → Prop) → Prop), E N → Same Ho Ho' → I s σ' H' Ho' → (body s).run (CtlP (fun s' => ∀ σ'' H'' Ho'', Same Ho' Ho'' → I s' σ'' H'' Ho'' → N σ'' H'') (fun s' => ∀ σ'' H'' Ho'', Same Ho' Ho'' → I s' σ'' H'' Ho'' → B σ'' H'') Φ) →
      tt σ' H' fun b H1 => if b = true then ∃ N, E N ∧ tb' { D with nx := N, ct := N, bk := B } σ' H1 else B σ' H1)
    (done : ∀ s σ' H' Ho', Same Ho Ho' → I s σ' H' Ho' → (f s).run Φ → u1 D σ' H') : tSeq (tWhile tt tb') u1 D σ H := by
  obtain ⟨n, hw⟩ := hw
  refine ⟨fun m σ' H' => ∃ s Ho', Same Ho Ho' ∧ I s σ' H' Ho' ∧ (W.bind (W.whileN m s body) fun c => W.after c f).run Φ, ⟨n, s0, Ho, Same.refl _, i0, hw⟩, ?_⟩
  rintro m σ' H' ⟨s, Ho', e', hI, hw⟩
  cases m with
  | zero => exact hw.elim
  | succ m =>
    refine step s σ' H' Ho' (fun σ'' H'' => ∃ s' Ho'', Same Ho Ho'' ∧ I s' σ'' H'' Ho'' ∧ (W.bind (W.whileN m s' body) fun c => W.after c f).run Φ) (u1 D) (fun N => ∀ σ' H', N σ' H' → ∃ m', m' < m + 1 ∧ ∃ s Ho', Same Ho Ho' ∧ I s σ' H' Ho' ∧ (W.bind (W.whileN m' s body) fun c => W.after c f).run Φ) (fun σ2 H2 h2 => ⟨m, Nat.lt_succ_self _, h2⟩) e' hI ?_
    refine W.mono _ _ _ (fun c hc => ?_) (show (body s).run _ from hw)
    cases c with
    | nx s' => exact fun σ4 H4 Ho4 e4 hI4 => ⟨s', Ho4, e'.trans e4, hI4, hc⟩
    | bk s' => exact fun σ4 H4 Ho4 e4 hI4 => done s' σ4 H4 Ho4 (e'.trans e4) hI4 hc
    | rt r => exact hc
end
end Z
/-! # Y3: targets, comprehensions, joins, errors, built-ins -/
namespace Z
open PySem PySem.Spec PyProof.Rows L2
section
variable {K : PySem.W.Frag} {rs r0 : List (Addr × HO)} {σ : L2.St} {H Ho : Hp} {ta tb tc te tl : TE} {tt tu : TT} {α β γ : Type} [Py α] [Py β] {p : Addr} {Φ : γ → Prop} {Q : VK} {v u : V}
/-! ### targets -/
theorem y_gname {i : Nat} {x : V} {σ σ' : L2.St} {Q : L2.St → Hp → Prop} (hs : σ.set i (some x) = σ') (h : Q σ' H) : gName i x σ H Q := by
  show Q _ H
  rw [hs]
  exact h
theorem y_gt2 {i j : Nat} {x : V} {σ : L2.St} {Q : L2.St → Hp → Prop} {a : α × β} (d : D K Ho x a) (z : Zs rs H Ho) (k : ∀ v u, D K Ho v a.1 → D K Ho u a.2 → Q ((σ.set i (some v)).set j (some u)) H) : gTup K 2 (gCons (gName i) (gCons (gName j) gNil)) x σ H Q := by
  cases d with
  | tup hs ha =>
    cases ha with
    | cons h1 h2 =>
      cases h2 with
      | cons h2 h3 =>
        cases h3
        exact ⟨_, _, rfl, SqT.of (z.le _ _ hs), rfl, _, _, rfl, _, _, rfl, rfl, k _ _ h1 h2⟩
theorem y_gt4 {δ ε : Type} [Py δ] [Py ε] {i j l m : Nat} {x : V} {σ : L2.St} {Q : L2.St → Hp → Prop} {a : P4 α β δ ε} (d : D K Ho x a) (z : Zs rs H Ho) (k : ∀ v u w t, D K Ho v a.a → D K Ho u a.b → D K Ho w a.c → D K Ho t a.d → Q ((((σ.set i (some v)).set j (some u)).set l (some w)).set m (some t)) H) :
    gTup K 4 (gCons (gName i) (gCons (gName j) (gCons (gName l) (gCons (gName m) gNil)))) x σ H Q := by
  cases d with
  | tup hs ha =>
    cases ha with
    | cons h1 h2 =>
      cases h2 with
      | cons h2 h3 =>
        cases h3 with
        | cons h3 h4 =>
          cases h4 with
          | cons h4 h5 =>
            cases h5
            exact ⟨_, _, rfl, SqT.of (z.le _ _ hs), rfl, _, _, rfl, _, _, rfl, _, _, rfl, _, _, rfl, rfl, k _ _ _ _ h1 h2 h3 h4⟩
/-! ### comprehensions -/
def comp {α β : Type} : List α → List β → (α → W Bool) → (α → W β) → W (List β)
  | [], acc, _, _ => W.ret acc
  | x :: xs, acc, t, f => W.bind (t x) fun b => W.ite b (W.bind (f x) fun y => comp xs (acc ++ [y]) t f) (comp xs acc t f)
def compG {α β : Type} (xs : List α) (t : α → W Bool) (f : α → W β) : W (List β) := W.guard (xs.length ≤ sizeLine) (comp xs [] t f)
/-- with a state -/
def compS {α β S : Type} : List α → List β → S → (α → S → W (Option β × S)) → W (List β × S)
  | [], acc, s, _ => W.ret (acc, s)
  | x :: xs, acc, s, f => W.bind (f x s) fun r => match r.1 with
    | none => compS xs acc r.2 f
    | some y => compS xs (acc ++ [y]) r.2 f
def compSG {α β S : Type} (xs : List α) (s : S) (f : α → S → W (Option β × S)) : W (List β × S) := W.guard (xs.length ≤ sizeLine) (compS xs [] s f)
def LcG (g : TG) (tt : TT) (te : TE) (vs : List Nat) (σ : L2.St) (Q : VK) (J : It) (H1 : Hp) : Prop := ∀ D, H1 D = none → ∃ W : Nat → Nat → Hp → Prop, (∃ m, W 0 m (upd H1 D (.lst []))) ∧ ∀ i m H, W i m H →
  (J.stop i H ∧ Q (.ref D) H) ∨ (J.go i H ∧ ∃ Nx : Hp → Prop, (∀ H', Nx H' → ∃ m', m' < m ∧ W (i + 1) m' H') ∧ ∀ x H', J.yld i H x H' → g x (wipe σ vs) H' fun σ2 H2 => wipe σ2 vs = wipe σ vs ∧ tt σ2 H2 fun b H3 =>
    if b = true then te σ2 H3 fun y H4 => ∃ acc, H4 D = some (.lst acc) ∧ acc.length < sizeLine ∧ Nx (upd H4 D (.lst (acc ++ [y]))) else Nx H3)
variable {g : TG} {vs : List Nat} {wi : TI}
theorem y_lc (k : wi σ H fun J H1 => LcG g tt te vs σ Q J H1) : tLc wi g tt te vs σ H Q := k
theorem y_yes {QB : Bool → Hp → Prop} (k : QB true H) : tYes σ H QB := k
theorem y_lcG {J : It} {xs : List α} {ct : α → W Bool} {cf : α → W β} {f : List β → W γ} (z : Zs rs H Ho) (hr : ∀ r ∈ r0, r ∈ rs) (T : Trn K r0 J xs Ho) (hw : (W.bind (compG xs ct cf) f).run Φ)
    (hx : ∀ (r : Addr × HO) a x H' Ho' (N : VK) (N' : Hp → Prop), Same Ho Ho' → Zs (r :: rs) H' Ho' → Z.D K Ho' x a →
      (W.bind (ct a) fun b => W.ite b (cf a) ⟨fun Ψ => ∀ H'' Ho'', Same Ho' Ho'' → Zs (r :: rs) H'' Ho'' → N' H'', fun _ _ _ q => q⟩).run (fun y => ∀ w H'' Ho'', Same Ho' Ho'' → Zs (r :: rs) H'' Ho'' → Z.D K Ho'' w y → N w H'') →
      g x (wipe σ vs) H' fun σ2 H2 => wipe σ2 vs = wipe σ vs ∧ tt σ2 H2 fun b H3 => if b = true then te σ2 H3 N else N' H3)
    (k : ∀ ys H' Ho', Same Ho Ho' → (f ys).run Φ → ∀ p ws, Zs ((p, .lst ws) :: rs) H' Ho' → DL K Ho' ws ys → Q (.ref p) H') : LcG g tt te vs σ Q J H := by
  intro Dn hD
  obtain ⟨hsz, hw⟩ := hw
  refine ⟨fun i m H => m = xs.length - i ∧ i ≤ xs.length ∧ ∃ (Ho' : Hp) (acc : List β) (acs : List V), Same Ho Ho' ∧ Zs ((Dn, .lst acs) :: rs) H Ho' ∧ DL K Ho' acs acc ∧ acs.length ≤ i ∧ (comp (xs.drop i) acc ct cf).run fun ys => (f ys).run Φ,
    ⟨xs.length, by simp, Nat.zero_le _, Ho, [], [], Same.refl _, z.root hD, .nil, Nat.le_refl _, hw⟩, ?_⟩
  rintro i m H ⟨rfl, hi, Ho', acc, acs, e', z', da, la, hw⟩
  have tr := T i _ H Ho' e' z' fun r hrr => List.mem_cons_of_mem _ (hr r hrr)
  by_cases hlt : i < xs.length
  · refine .inr ?_
    have hxi := List.getElem?_eq_getElem hlt
    obtain ⟨go, yl⟩ := tr.1 _ hxi
    refine ⟨go, fun H' => ∃ (Ho' : Hp) (acc : List β) (acs : List V), Same Ho Ho' ∧ Zs ((Dn, .lst acs) :: rs) H' Ho' ∧ DL K Ho' acs acc ∧ acs.length ≤ i + 1 ∧ (comp (xs.drop (i + 1)) acc ct cf).run fun ys => (f ys).run Φ, fun H' hN => ⟨xs.length - (i + 1), by omega, rfl, hlt, hN⟩, fun x H' y => ?_⟩
    obtain ⟨Ho2, e2, z2, dx⟩ := yl x H' y
    rw [drop_cons hxi] at hw
    refine hx (Dn, .lst acs) _ x H' Ho2 _ _ (e'.trans e2) (z2 _ z') dx ?_
    have hw : (ct xs[i]).run fun b => (W.ite b (W.bind (cf xs[i]) fun y => comp (xs.drop (i + 1)) (acc ++ [y]) ct cf) (comp (xs.drop (i + 1)) acc ct cf)).run fun ys => (f ys).run Φ := hw
    show (ct xs[i]).run _
    refine W.mono _ _ _ (fun b hb => ?_) hw
    refine ⟨fun e => ?_, fun e H'' Ho'' e3 z3 => ?_⟩
    · refine W.mono _ _ _ (fun y hy w H'' Ho'' e3 z3 dw => ?_) (hb.1 e)
      refine ⟨acs, z3.head, by omega, Ho'', acc ++ [y], acs ++ [w], (e'.trans e2).trans e3, z3.put, (DL.mo (DL.mo da e2) e3).push dw, ?_, hy⟩
      rw [List.length_append]
      exact Nat.succ_le_succ la
    · exact ⟨Ho'', acc, acs, (e'.trans e2).trans e3, z3, DL.mo (DL.mo da e2) e3, Nat.le_succ_of_le la, hb.2 e⟩
  · have e : i = xs.length := by omega
    subst e
    refine .inl ⟨tr.2 (Nat.le_refl _), ?_⟩
    rw [List.drop_length] at hw
    exact k acc H Ho' e' hw Dn acs z' da
theorem y_lcS {S : Type} {J : It} {xs : List α} {s0 : S} {body : α → S → W (Option β × S)} {f : List β × S → W γ} (z : Zs rs H Ho) (T : Trn K r0 J xs Ho) (hw : (W.bind (compSG xs s0 body) f).run Φ) (I : (Addr × HO) → S → Hp → Hp → Prop)
    (i0 : ∀ r H', Zs (r :: rs) H' Ho → I r s0 H' Ho)
    (iz : ∀ r s H' Ho', I r s H' Ho' → ∃ rs', Zs (r :: rs') H' Ho' ∧ ∀ q ∈ r0, q ∈ rs')
    (im : ∀ r s H' Ho' H'' Ho'', I r s H' Ho' → Same Ho' Ho'' → (∀ rs, Zs rs H' Ho' → Zs rs H'' Ho'') → I r s H'' Ho'')
    (ip : ∀ p o o' s H' Ho', NotTup o' → I (p, o) s H' Ho' → I (p, o') s (upd H' p o') Ho')
    (hx : ∀ (r : Addr × HO) a x s H' Ho' (N : VK) (N' : Hp → Prop), Same Ho Ho' → I r s H' Ho' → Z.D K Ho' x a →
      (body a s).run (fun q => match q.1 with | some y => ∀ w H'' Ho'', Same Ho' Ho'' → I r q.2 H'' Ho'' → Z.D K Ho'' w y → N w H'' | none => ∀ H'' Ho'', Same Ho' Ho'' → I r q.2 H'' Ho'' → N' H'') →
      g x (wipe σ vs) H' fun σ2 H2 => wipe σ2 vs = wipe σ vs ∧ tt σ2 H2 fun b H3 => if b = true then te σ2 H3 N else N' H3)
    (k : ∀ ys s p ws H' Ho', Same Ho Ho' → I (p, .lst ws) s H' Ho' → DL K Ho' ws ys → (f (ys, s)).run Φ → Q (.ref p) H') : LcG g tt te vs σ Q J H := by
  intro Dn hD
  obtain ⟨hsz, hw⟩ := hw
  refine ⟨fun i m H => m = xs.length - i ∧ i ≤ xs.length ∧ ∃ (Ho' : Hp) (acc : List β) (acs : List V) (s : S), Same Ho Ho' ∧ I (Dn, .lst acs) s H Ho' ∧ DL K Ho' acs acc ∧ acs.length ≤ i ∧ (compS (xs.drop i) acc s body).run fun q => (f q).run Φ,
    ⟨xs.length, by simp, Nat.zero_le _, Ho, [], [], s0, Same.refl _, i0 _ _ (z.root hD), .nil, Nat.le_refl _, hw⟩, ?_⟩
  rintro i m H ⟨rfl, hi, Ho', acc, acs, s, e', hI, da, la, hw⟩
  obtain ⟨rs', z', sub⟩ := iz _ _ _ _ hI
  have tr := T i _ H Ho' e' z' fun r hrr => List.mem_cons_of_mem _ (sub r hrr)
  by_cases hlt : i < xs.length
  · refine .inr ?_
    have hxi := List.getElem?_eq_getElem hlt
    obtain ⟨go, yl⟩ := tr.1 _ hxi
    refine ⟨go, fun H' => ∃ (Ho' : Hp) (acc : List β) (acs : List V) (s : S), Same Ho Ho' ∧ I (Dn, .lst acs) s H' Ho' ∧ DL K Ho' acs acc ∧ acs.length ≤ i + 1 ∧ (compS (xs.drop (i + 1)) acc s body).run fun q => (f q).run Φ, fun H' hN => ⟨xs.length - (i + 1), by omega, rfl, hlt, hN⟩, fun x H' y => ?_⟩
    obtain ⟨Ho2, e2, z2, dx⟩ := yl x H' y
    rw [drop_cons hxi] at hw
    refine hx (Dn, .lst acs) _ x s H' Ho2 _ _ (e'.trans e2) (im _ _ _ _ _ _ hI e2 z2) dx ?_
    refine W.mono _ _ _ (fun q hq => ?_) (show (body xs[i] s).run _ from hw)
    obtain ⟨o, s'⟩ := q
    cases o with
    | some y =>
      intro w H'' Ho'' e3 hI3 dw
      obtain ⟨rs3, z3, _⟩ := iz _ _ _ _ hI3
      refine ⟨acs, z3.head, by omega, Ho'', acc ++ [y], acs ++ [w], s', (e'.trans e2).trans e3, ip _ _ _ _ _ _ trivial hI3, (DL.mo (DL.mo da e2) e3).push dw, ?_, hq⟩
      rw [List.length_append]
      exact Nat.succ_le_succ la
    | none =>
      intro H'' Ho'' e3 hI3
      exact ⟨Ho'', acc, acs, s', (e'.trans e2).trans e3, hI3, DL.mo (DL.mo da e2) e3, Nat.le_succ_of_le la, hq⟩
  · have e : i = xs.length := by omega
    subst e
    refine .inl ⟨tr.2 (Nat.le_refl _), ?_⟩
    rw [List.drop_length] at hw
    exact k acc s Dn acs H Ho' e' hI da hw
/-! ### where ways meet -/
/-! ### errors -/
variable {cl : Nat → Addr} {Wout : WX} {D : Ends} {u1 : TS} {i : Nat}
/-! ### built-ins by values -/
def rLenZ (K : PySem.W.Frag) : List V → Hp → VK → Prop := fun xs H Q => ∃ p ys, xs = [.ref p] ∧ (SqL K H p ys ∨ SqT K H p ys) ∧ Q (.int ys.length) H
def rListZ (K : PySem.W.Frag) : List V → Hp → VK → Prop := fun xs H Q => ∃ p ys, xs = [.ref p] ∧ (SqL K H p ys ∨ SqT K H p ys) ∧ ∀ l, H l = none → Q (.ref l) (upd H l (.lst ys))
theorem y_len {xs : List α} (d : LV K rs Ho v xs) (z : Zs rs H Ho) (k : Q (.int (xs.length : Int)) H) : rLenZ K [v] H Q := by
  obtain ⟨p, vs, rfl, d, s⟩ := LV.rd d z
  refine ⟨p, vs, rfl, .inl s, ?_⟩
  rw [d.len]
  exact k
theorem y_list {xs : List α} (d : LV K rs Ho v xs) (z : Zs rs H Ho) (k : ∀ H' p ws, Zs ((p, .lst ws) :: rs) H' Ho → DL K Ho ws xs → Q (.ref p) H') : rListZ K [v] H Q := by
  obtain ⟨p, vs, rfl, d, s⟩ := LV.rd d z
  exact ⟨p, vs, rfl, .inl s, fun q hq => k _ q _ (z.root hq) d⟩
theorem y_sum {xs : List Int} (d : LV K rs Ho v xs) (z : Zs rs H Ho) (k : Q (.int xs.sum) H) : rSum K [v] H Q := by
  obtain ⟨p, vs, rfl, d, s⟩ := LV.rd d z
  rw [dl_ints d] at s
  exact ⟨p, xs, rfl, s, k⟩
def mnD (ns : List Int) (d : Int) : Int := match ns with
  | [] => d
  | x :: xs => xs.foldl (fun a y => if decide (y < a) = true then y else a) x
def rMnD (K : PySem.W.Frag) : List V → List V → Hp → VK → Prop := fun vs zs H Q => ∃ (a : Addr) (ns : List Int) (d : Int), vs = [V.ref a] ∧ zs = [V.int d] ∧ SqL K H a (ns.map V.int) ∧ Q (.int (mnD ns d)) H
theorem hold_ints {h : Heap} : ∀ {ns : List Int} {us : List Value}, Vals (ns.map V.int) us → PySem.W.HoldAll h us ns
  | [], us, r => by cases r; exact PySem.W.HoldAll.nil
  | n :: ns, us, r => by
    cases r with
    | cons r1 r2 =>
      obtain ⟨t, rfl⟩ := r1
      exact PySem.W.HoldAll.cons (PySem.W.holds_int n t) (hold_ints r2)
theorem zmnD {X : Cx} {K : PySem.W.Frag} (hK : X.K = K) (hc : X.calm = true) (hu : X.A.units + 64 < cLine) : CallRK X (.builtin "min") [Str.ofString "default"] (rMnD K) := by
  subst hK
  intro pins s σ H vs zs us ws Q I r rz h
  obtain ⟨a, ns, d, rfl, rfl, hs, q⟩ := h
  obtain rfl := Vals.ref1 r
  obtain ⟨w1, rfl, t, rfl⟩ := vals1 rz
  obtain ⟨its, rv, hl, hz⟩ := I.list hs
  refine PySem.W.min_list_datum_default (α := Int) (I.ok.hd hc) hl.isList (hold_ints rv) (by show X.A.units + 1 + 0 < cLine; omega) (fun e h' tk k => ⟨.int d, H, I.kept (t' := tk) k, ⟨t, rfl⟩, ?_⟩) fun y ys i v h' tk e hi hh k => ?_
  · subst e; exact q
  · subst e
    obtain ⟨t', rfl⟩ := PySem.W.int_of_holds hh
    exact ⟨.int _, H, I.kept (t' := tk) k, ⟨t', rfl⟩, q⟩
theorem y_ckw {r : List V → List V → Hp → VK → Prop} {ts tk : TA} (k : ts σ H fun vs H1 => tk σ H1 fun zs H2 => r vs zs H2 Q) : tCKw r ts tk σ H Q := k
theorem y_mnD {xs : List Int} {a : Int} (d : LV K rs Ho v xs) (z : Zs rs H Ho) (k : Q (.int (mnD xs a)) H) : rMnD K [v] [.int a] H Q := by
  obtain ⟨p, vs, rfl, d, s⟩ := LV.rd d z
  rw [dl_ints d] at s
  exact ⟨p, xs, a, rfl, rfl, s, k⟩
theorem mnF : ∀ (xs : List Int) (x : Int), (xs.foldl (fun a y => if decide (y < a) = true then y else a) x) ∈ x :: xs ∧ ∀ y ∈ x :: xs, xs.foldl (fun a y => if decide (y < a) = true then y else a) x ≤ y
  | [], x => by simp
  | y :: ys, x => by
    have ih := mnF ys (if decide (y < x) = true then y else x)
    simp only [List.foldl_cons]
    generalize hr : ys.foldl (fun a y => if decide (y < a) = true then y else a) (if decide (y < x) = true then y else x) = r at ih
    obtain ⟨h1, h2⟩ := ih
    by_cases c : y < x
    · simp only [decide_eq_true c, if_true] at h1 h2
      refine ⟨List.mem_cons_of_mem _ h1, fun z hz => ?_⟩
      rcases List.mem_cons.mp hz with rfl | hz
      · have := h2 y List.mem_cons_self; omega
      · exact h2 z hz
    · simp only [decide_eq_false c, Bool.false_eq_true, if_false] at h1 h2
      refine ⟨?_, fun z hz => ?_⟩
      · rcases List.mem_cons.mp h1 with h | h
        · rw [h]; exact List.mem_cons_self
        · exact List.mem_cons_of_mem _ (List.mem_cons_of_mem _ h)
      · rcases List.mem_cons.mp hz with rfl | hz
        · exact h2 _ List.mem_cons_self
        · rcases List.mem_cons.mp hz with rfl | hz
          · have := h2 x List.mem_cons_self; omega
          · exact h2 z (List.mem_cons_of_mem _ hz)
end
end Z
/-! # sorted lists of tuples of ints, any number of them -/
namespace Z
open PySem PySem.Spec PyProof.Rows L2
theorem DL.item {α : Type} [Py α] {K : PySem.W.Frag} {vs : List V} {xs : List α} {i : Nat} {v : V} {H : Hp} (h : DL K H vs xs) (e : vs[i]? = some v) : ∃ x, xs[i]? = some x ∧ D K H v x := by
  have hi : i < xs.length := by rw [← h.len]; exact (List.getElem?_eq_some_iff.mp e).1
  obtain ⟨w, ew, dw⟩ := h.get (List.getElem?_eq_getElem hi)
  rw [e] at ew
  cases ew
  exact ⟨_, List.getElem?_eq_getElem hi, dw⟩
def lexL : List Int → List Int → Bool
  | [], [] => false
  | [], _ :: _ => true
  | _ :: _, [] => false
  | x :: xs, y :: ys => if x = y then lexL xs ys else decide (x < y)
theorem lexL_asym : ∀ a b : List Int, lexL a b = true → lexL b a = false
  | [], [], h => nomatch h
  | [], _ :: _, _ => rfl
  | _ :: _, [], h => nomatch h
  | x :: xs, y :: ys, h => by
    have h : (if x = y then lexL xs ys else decide (x < y)) = true := h
    show (if y = x then lexL ys xs else decide (y < x)) = false
    by_cases e : x = y
    · rw [if_pos e] at h
      rw [if_pos e.symm]
      exact lexL_asym xs ys h
    · rw [if_neg e] at h
      rw [if_neg (fun q => e q.symm)]
      have := of_decide_eq_true h
      exact decide_eq_false (by omega)
theorem lexL_tr : ∀ a b c : List Int, lexL b a = false → lexL c b = false → lexL c a = false
  | [], b, c, _, h2 => by
    cases c with
    | nil => rfl
    | cons z zs => rfl
  | x :: xs, [], c, h1, _ => nomatch h1
  | x :: xs, y :: ys, [], _, h2 => nomatch h2
  | x :: xs, y :: ys, z :: zs, h1, h2 => by
    have h1 : (if y = x then lexL ys xs else decide (y < x)) = false := h1
    have h2 : (if z = y then lexL zs ys else decide (z < y)) = false := h2
    show (if z = x then lexL zs xs else decide (z < x)) = false
    by_cases e1 : y = x
    · subst e1
      rw [if_pos rfl] at h1
      by_cases e2 : z = y
      · rw [if_pos e2] at h2 ⊢
        exact lexL_tr xs ys zs h1 h2
      · rw [if_neg e2] at h2 ⊢
        exact h2
    · rw [if_neg e1] at h1
      have q1 := of_decide_eq_false h1
      by_cases e2 : z = y
      · subst e2
        rw [if_neg e1]; exact h1
      · rw [if_neg e2] at h2
        have q2 := of_decide_eq_false h2
        rw [if_neg (by omega)]
        exact decide_eq_false (by omega)
theorem lexL_tot : ∀ a b : List Int, lexL a b = false → lexL b a = false → a = b
  | [], [], _, _ => rfl
  | [], _ :: _, h, _ => nomatch h
  | _ :: _, [], _, h => nomatch h
  | x :: xs, y :: ys, h1, h2 => by
    have h1 : (if x = y then lexL xs ys else decide (x < y)) = false := h1
    have h2 : (if y = x then lexL ys xs else decide (y < x)) = false := h2
    by_cases e : x = y
    · subst e
      rw [if_pos rfl] at h1 h2
      rw [lexL_tot xs ys h1 h2]
    · rw [if_neg e] at h1
      rw [if_neg (fun q => e q.symm)] at h2
      have := of_decide_eq_false h1
      have := of_decide_eq_false h2
      omega
section
variable {prog : Program} {w : World} {A : Around} {E : Value → Shared → Prop} {s : Shared}
theorem kat_lexL {b : Bool} {ps qs : List Value} {is js : List Int} (n : Nat) (hp : IntsAre ps is) (hq : IntsAre qs js) (he : is.length = js.length) : PySem.W.KatLex prog w A b false (fun r t => t = s ∧ r = lexL is js) (ps.zip qs) n s := by
  induction hp generalizing qs js n with
  | nil =>
    cases hq with
    | nil => exact PySem.W.kat_nil ⟨rfl, rfl⟩
    | cons q u hq => simp at he
  | @cons i t ps is hp ih =>
    cases hq with
    | nil => simp at he
    | @cons j u qs js hq =>
      show PySem.W.KatLex prog w A b false _ ((Value.int i t, Value.int j u) :: ps.zip qs) n s
      refine PySem.W.kat_cons (wpAny_eqBool_int ?_)
      have el : lexL (i :: is) (j :: js) = if i = j then lexL is js else decide (i < j) := rfl
      by_cases e : i = j
      · subst e
        rw [if_pos rfl] at el
        rw [beq_self_eq_true, el]
        exact PySem.W.kat_yes (ih (n + 1) hq (by simpa using he))
      · rw [if_neg e] at el
        rw [show (i == j) = false from beq_eq_false_iff_ne.mpr e, el]
        exact PySem.W.kat_no (TS.oneLt_ints _ ⟨rfl, rfl⟩)
theorem tups_cmp {us : List Value} {k : Value → List Int} {d : Nat} (hp : ∀ v ∈ us, TS.TupInts s.heap v (k v) ∧ (k v).length = d) : SrtO.Cmp prog w A s (tuples' true) (fun p => p.1 ∈ us) (SrtO.lt2 fun v u => lexL (k v) (k u)) := by
  intro p q h1 h2
  obtain ⟨⟨a, xs, ea, ⟨o, ho, _, n, hd⟩, ia⟩, la⟩ := hp _ h1
  obtain ⟨⟨b, ys, eb, ⟨u, hu, _, m, hm⟩, ib⟩, lb⟩ := hp _ h2
  show wpAny (model prog w) A (keyLt' (tuples' true) p.1 q.1) (fun r t => t = s ∧ r = lexL (k p.1) (k q.1)) (fun _ _ => False) s
  have sz : xs.size = ys.size := by
    have q1 := ia.length
    have q2 := ib.length
    rw [Array.length_toList] at q1 q2
    omega
  generalize k p.1 = kp at ia la ⊢
  generalize k q.1 = kq at ib lb ⊢
  rw [ea, eb]
  refine PySem.W.kat_lt ho hd hu hm ?_
  rw [show decide (xs.size < ys.size) = false from decide_eq_false (by omega)]
  exact kat_lexL 0 ia ib (by omega)
theorem tups_firsts {h : Heap} {k : Value → List Int} {d : Nat} (h1 : 1 ≤ d) : ∀ us : List Value, (∀ v ∈ us, TS.TupInts h v (k v) ∧ (k v).length = d) → ∃ fs, PySem.W.KatTups h us fs ∧ fs.length = us.length ∧ ∀ f ∈ fs, ∃ i t, f = Value.int i t
  | [], _ => ⟨[], .nil, rfl, fun _ m => nomatch m⟩
  | v :: us, x => by
    obtain ⟨fs, kt, hl, hi⟩ := tups_firsts h1 us fun u hu => x u (List.mem_cons_of_mem _ hu)
    obtain ⟨⟨a, xs, ea, ⟨o, ho, hc, n, hdt⟩, ia⟩, la⟩ := x v List.mem_cons_self
    obtain ⟨ys⟩ := xs
    cases ys with
    | nil =>
      have l := ia.length
      rw [la] at l
      have l : 0 = d := l
      omega
    | cons y ys =>
      obtain ⟨m, t, hy⟩ := ia.all y List.mem_cons_self
      subst ea
      refine ⟨y :: fs, .cons ho hc hdt rfl kt, by simp [hl], fun f hf => ?_⟩
      rcases List.mem_cons.mp hf with rfl | hf
      · exact ⟨m, t, hy⟩
      · exact hi f hf
theorem tups_sortable {a : Addr} {us : List Value} {k : Value → List Int} {d : Nat} (h1 : 1 ≤ d) (h0 : 0 < us.length) (hp : ∀ v ∈ us, TS.TupInts s.heap v (k v) ∧ (k v).length = d) (ha : ∀ o, s.heap.get? a = some o → o.cls ≠ .type "tuple") :
    SrtO.SortableO prog w A s a us fun v u => lexL (k v) (k u) := by
  intro h' keep
  have hp' : ∀ v ∈ us, TS.TupInts h' v (k v) ∧ (k v).length = d := fun v m => ⟨(hp v m).1.keeps fun b o e c => keep b o (fun z => by subst z; exact ha o e c) e, (hp v m).2⟩
  obtain ⟨fs, q1, q2, q3⟩ := tups_firsts h1 us hp'
  refine ⟨tuples' true, fun Q E hq => ?_, tups_cmp hp'⟩
  refine PySem.W.kat_kind (T := .type "int") q1 (by omega) (fun f m => ?_) (by rfl) ?_
  · obtain ⟨x, t, rfl⟩ := q3 f m
    exact PySem.W.Looks.now
  · rw [show (Value.type "int" != Value.type "tuple") = true from by decide +kernel]
    exact hq
theorem swoL {α : Type} (k : α → List Int) : SrtO.Swo fun v u => lexL (k v) (k u) := ⟨fun x y => lexL_asym _ _, fun x y z => lexL_tr _ _ _⟩
end
/-! ### by data -/
class Ktup (α : Type) [Py α] where
  key : α → List Int
  d : Nat
  pos : 1 ≤ d
  len : ∀ x, (key x).length = d
  py : ∀ x : α, toPy x = .tuple ((key x).map PyData.int)
  inj : ∀ x y, key x = key y → x = y
instance : Ktup (Int × Int) := ⟨fun x => [x.1, x.2], 2, by decide, fun _ => rfl, fun _ => rfl, fun x y h => by
  obtain ⟨a, b⟩ := x
  obtain ⟨c, d⟩ := y
  simpa using h⟩
instance : Ktup (P3 Int Int Int) := ⟨fun x => [x.a, x.b, x.c], 3, by decide, fun _ => rfl, fun _ => rfl, fun x y h => by
  obtain ⟨a, b, c⟩ := x
  obtain ⟨d, e, f⟩ := y
  simpa using h⟩
instance : Ktup (P4 Int Int Int Int) := ⟨fun x => [x.a, x.b, x.c, x.d], 4, by decide, fun _ => rfl, fun _ => rfl, fun x y h => by
  obtain ⟨a, b, c, d⟩ := x
  obtain ⟨e, f, g, i⟩ := y
  simpa using h⟩
section
variable {α : Type} [Py α] [Ktup α] {K : PySem.W.Frag} {H Ho : Hp}
def leK (x y : α) : Bool := !lexL (Ktup.key y) (Ktup.key x)
def srtK (xs : List α) : List α := xs.mergeSort leK
theorem leK_tr (x y z : α) (h1 : leK x y = true) (h2 : leK y z = true) : leK x z = true := by
  unfold leK at *
  simp only [Bool.not_eq_true'] at *
  exact lexL_tr _ _ _ h1 h2
theorem leK_tot (x y : α) : (leK x y || leK y x) = true := by
  unfold leK
  cases h : lexL (Ktup.key y) (Ktup.key x) with
  | false => rfl
  | true => rw [lexL_asym _ _ h]; rfl
theorem leK_anti (x y : α) (h1 : leK x y = true) (h2 : leK y x = true) : x = y := by
  unfold leK at *
  simp only [Bool.not_eq_true'] at *
  exact Ktup.inj _ _ (lexL_tot _ _ h2 h1)
theorem srt_uniq : ∀ {l m : List α}, l.Perm m → l.Pairwise (fun x y => leK x y = true) → m.Pairwise (fun x y => leK x y = true) → l = m
  | [], m, hp, _, _ => (List.Perm.nil_eq hp)
  | x :: l, [], hp, _, _ => absurd hp.length_eq (by simp)
  | x :: l, y :: m, hp, h1, h2 => by
    have e : x = y := by
      rcases List.mem_cons.mp (hp.mem_iff.mp (List.mem_cons_self (a := x) (l := l))) with e | hx
      · exact e
      rcases List.mem_cons.mp (hp.mem_iff.mpr (List.mem_cons_self (a := y) (l := m))) with e | hy
      · exact e.symm
      exact leK_anti x y ((List.pairwise_cons.mp h1).1 y hy) ((List.pairwise_cons.mp h2).1 x hx)
    subst e
    rw [srt_uniq hp.cons_inv (List.pairwise_cons.mp h1).2 (List.pairwise_cons.mp h2).2]
theorem srtK_perm (xs : List α) : (srtK xs).Perm xs := List.mergeSort_perm xs leK
theorem srtK_srt (xs : List α) : (srtK xs).Pairwise (fun x y => leK x y = true) := List.pairwise_mergeSort leK_tr leK_tot xs
theorem srtK_of {xs ys : List α} (h : ys.Perm xs) (hs : ys.Pairwise (fun x y => leK x y = true)) : ys = srtK xs := srt_uniq (h.trans (srtK_perm xs).symm) hs (srtK_srt xs)
theorem DL.perm {vs us : List V} (hp : us.Perm vs) : ∀ {xs : List α}, DL K H vs xs → ∃ ys, ys.Perm xs ∧ DL K H us ys := by
  induction hp with
  | nil => exact fun {xs} h => ⟨xs, List.Perm.refl _, h⟩
  | cons v _ ih =>
    intro xs h
    cases xs with
    | nil => cases h
    | cons x xs =>
      cases h with
      | cons h1 h2 =>
        obtain ⟨ys, p, q⟩ := ih h2
        exact ⟨x :: ys, p.cons x, .cons h1 q⟩
  | swap u v l =>
    intro xs h
    cases xs with
    | nil => cases h
    | cons x xs =>
      cases xs with
      | nil => cases h with | cons _ h2 => cases h2
      | cons y xs =>
        cases h with
        | cons h1 h2 =>
          cases h2 with
          | cons h2 h3 => exact ⟨y :: x :: xs, List.Perm.swap _ _ _, .cons h2 (.cons h1 h3)⟩
  | trans _ _ ih1 ih2 =>
    intro xs h
    obtain ⟨ys, p, q⟩ := ih2 h
    obtain ⟨zs, p2, q2⟩ := ih1 q
    exact ⟨zs, p2.trans p, q2⟩
end
section
variable {K : PySem.W.Frag} {rs : List (Addr × HO)} {H Ho : Hp} {α β γ δ : Type} [Py α] [Py β] [Py γ] [Py δ] {v u : V} {Q : VK}
theorem y_cat22 {a : α × β} {b : γ × δ} (d1 : D K Ho v a) (d2 : D K Ho u b) (z : Zs rs H Ho) (k : ∀ p H' Ho', Same Ho Ho' → Zs rs H' Ho' → D K Ho' (.ref p) (⟨a.1, a.2, b.1, b.2⟩ : P4 α β γ δ) → Q (.ref p) H') : rCatT K v u H Q := by
  cases d1 with
  | tup hs ha =>
    cases d2 with
    | tup ht hb =>
      cases ha with
      | cons a1 a2 =>
        cases a2 with
        | cons a2 a3 =>
          cases a3
          cases hb with
          | cons b1 b2 =>
            cases b2 with
            | cons b2 b3 =>
              cases b3
              refine ⟨_, _, _, _, rfl, rfl, SqT.of (z.le _ _ hs), SqT.of (z.le _ _ ht), by simp, by show 4 ≤ sizeLine; decide, fun e => (nomatch e), fun _ q hq => ?_⟩
              exact k _ _ _ (Same.new (z.free hq)) (z.alloc hq) (.tup upd_same (.cons (dp_mono (Same.new (z.free hq)) _ _ a1) (.cons (dp_mono (Same.new (z.free hq)) _ _ a2) (.cons (dp_mono (Same.new (z.free hq)) _ _ b1) (.cons (dp_mono (Same.new (z.free hq)) _ _ b2) .nil)))))
end
theorem zop_catT {X : Cx} {K : PySem.W.Frag} (hK : X.K = K) : OpR X (binaryOp .Add) (rCatT K) := hK ▸ op_catT
end Z
/-! # Y4: the machine's rules, the written part by its own letter; isinstance -/
namespace Z
open PySem PySem.Spec PyProof.Rows L2
section
variable {α : Type} [Py α]
/-! ### isinstance: the kind is known -/
class Kin (β : Type) [Py β] where
  ty : String
  ok : ∀ {K : PySem.W.Frag} {H : Hp} {v : V} {x : β}, D K H v x → TyX K H v (.type ty)
theorem tyx_list {K : PySem.W.Frag} {H : Hp} {p : Addr} {vs : List V} (h : SqL K H p vs) : TyX K H (.ref p) (.type "list") := by
  rcases h with (h | ⟨o, h⟩) | ⟨o, its, n, h, hc, _⟩
  · exact .base (.lst h)
  · exact .base (.frz h)
  · exact .kList h hc
theorem tyx_tup {K : PySem.W.Frag} {H : Hp} {p : Addr} {vs : List V} (h : SqT K H p vs) : TyX K H (.ref p) (.type "tuple") := by
  rcases h with (h | ⟨o, h⟩) | ⟨o, its, n, h, hc, _⟩
  · exact .base (.tup h)
  · exact .fTuple h
  · exact .kTuple h hc
theorem dp_list {K : PySem.W.Frag} {H : Hp} {v : V} {ds : List PyData} (h : Dq K H v (.list ds)) : TyX K H v (.type "list") := by
  cases h with
  | lst hs _ => exact tyx_list (SqL.of hs)
theorem dp_tup {K : PySem.W.Frag} {H : Hp} {v : V} {ds : List PyData} (h : Dq K H v (.tuple ds)) : TyX K H v (.type "tuple") := by
  cases h with
  | tup hs _ => exact tyx_tup (SqT.of hs)
instance : Kin Int := ⟨"int", fun d => by rw [d_int d]; exact .base (.int _)⟩
instance : Kin Bool := ⟨"bool", fun d => by rw [d_bool d]; exact .base (.bl _)⟩
instance : Kin Str := ⟨"str", fun d => by rw [d_str d]; exact .base (.str _)⟩
instance : Kin Unit := ⟨"NoneType", fun d => by cases d; exact .base .non⟩
instance : Kin (List α) := ⟨"list", fun d => dp_list d⟩
instance : Kin (Tp α) := ⟨"tuple", fun d => dp_tup d⟩
instance {β γ : Type} [Py β] [Py γ] : Kin (β × γ) := ⟨"tuple", fun d => dp_tup d⟩
instance {β γ δ : Type} [Py β] [Py γ] [Py δ] : Kin (P3 β γ δ) := ⟨"tuple", fun d => dp_tup d⟩
instance {β γ δ ε : Type} [Py β] [Py γ] [Py δ] [Py ε] : Kin (P4 β γ δ ε) := ⟨"tuple", fun d => dp_tup d⟩
section
variable {K : PySem.W.Frag} {H : Hp} {v : V} {Q : VK} {σ : L2.St}
theorem y_isi {β : Type} [Py β] [Kin β] {x : β} {T : String} {b : Bool} (d : D K H v x) (hb : kitB (Kin.ty β) T = some b) (k : Q (.bl b) H) : rIsi K [v, .ty T] H Q :=
  ⟨v, .ty T, _, .type T, b, rfl, .ty T, Kin.ok d, kit_ty hb, k⟩
end
end
section
variable {X : Cx} {K : PySem.W.Frag}
theorem zix_list (hK : X.K = K) : IxR X (rIxL K) := hK ▸ ix_list
theorem zix_tup (hK : X.K = K) : IxR X (rIxT K) := hK ▸ ix_tup
theorem zget_list (hK : X.K = K) : PGet X (rIxL K) := hK ▸ get_list
theorem zsl_list (hK : X.K = K) : SlR X (rSlL K) := hK ▸ sl_list
theorem zop_catS (hK : X.K = K) : OpR X (binaryOp .Add) (rCatS K) := hK ▸ op_catS
theorem zop_eqD (hK : X.K = K) (hu : X.A.units + 64 < cLine) : OpR X (compareOp .Eq) (rEqD K) := hK ▸ op_eqD hu
theorem zop_neD (hK : X.K = K) (hu : X.A.units + 64 < cLine) : OpR X (compareOp .NotEq) (rNeD K) := hK ▸ op_neD hu
theorem zlen (hK : X.K = K) : CallR X (.builtin "len") (rLenZ K) := hK ▸ call_len_seq
theorem zlist (hK : X.K = K) : CallR X (.type "list") (rListZ K) := hK ▸ call_list_of
theorem zisi (hK : X.K = K) : CallR X (.builtin "isinstance") (rIsi K) := hK ▸ call_isi
theorem zpi_list {tg l : Expr} {tl : TE} (hK : X.K = K) (hl : PE X l tl) : PI X tg l (iList K tl) := hK ▸ pi_list hl
theorem zpi_tup {tg l : Expr} {tl : TE} (hK : X.K = K) (hl : PE X l tl) : PI X tg l (iTup K tl) := hK ▸ pi_tup hl
theorem zsum (hK : X.K = K) (hc : X.calm = true) : CallR X (.builtin "sum") (rSum K) := hK ▸ cr_sum hc
theorem zop_notInD (hK : X.K = K) (hu : X.A.units + 65 < cLine) : OpR X (compareOp .NotIn) (rNotInD K) := hK ▸ op_notInD hu
end
theorem zpg_tup {X : Cx} {K : PySem.W.Frag} {es : List Expr} {k : Nat} {t : TGs} {n : Nat} {pos : Pos} (hK : X.K = K) (hc : X.calm = true) (h : PGs X es t)
    (hn : (assignEach es X.env).length = n := by rfl) (hst : (assignEach es X.env).findIdx? (·.1) = none := by rfl) : PG X (.Tuple es k pos) (gTup K n t) := hK ▸ pg_tup hc h hn hst
/-- a def that stands at f under the name x -/
structure Cal (P : Program) (w : World) (K : PySem.W.Frag) (mg : Str → Option Value) (base : Heap) (CX : CXT) (x : Str) (ps : List Str) (k : Nat) (sp : Sp) (f : Addr) (fd : FuncData) : Prop where
  ok : FnOk P w K mg base CX k f fd ps sp
  g : mg x = some (.ref f)
  kp : PySem.W.keepIn K (.ref f) = true
  b : Binds K fd ps []
section
variable {σ : L2.St} {H : Hp} {K : PySem.W.Frag}
inductive TCs : TA → List V → Prop where
  | nil : TCs tNil []
  | cons {v : V} {vs : List V} {t : TA} (h : TCs t vs) : TCs (tCons (tC v) t) (v :: vs)
theorem TCs.run {t : TA} {vs : List V} (h : TCs t vs) : ∀ {σ : L2.St} {H : Hp} {Q : List V → Hp → Prop}, Q vs H → t σ H Q := by
  induction h with
  | nil => exact fun q => q
  | cons h ih => exact fun q => ih q
end
end Z
/-! # Yg: what is one's own, by groups of roots -/
namespace Z
open PySem PySem.Spec PyProof.Rows L2
abbrev Grp := List (Addr × HO)
/-- groups, in a row, ahead of the rest -/
def rowG (gs : List Grp) (amb : Grp) : Grp := gs.foldr (· ++ ·) amb
theorem rowG_eq (gs : List Grp) (amb : Grp) : rowG gs amb = gs.flatten ++ amb := by
  induction gs with
  | nil => rfl
  | cons g gs ih => show g ++ rowG gs amb = _; rw [ih, List.flatten_cons, List.append_assoc]
theorem mg0 {g R : Grp} : ∀ r ∈ g, r ∈ g ++ R := fun _ h => List.mem_append_left _ h
theorem mgS {g h R : Grp} (k : ∀ r ∈ g, r ∈ R) : ∀ r ∈ g, r ∈ h ++ R := fun r m => List.mem_append_right _ (k r m)
theorem room65 {k : Nat} {A : Around} (r : Room k A) : A.units + 65 < cLine := by have := r.un; omega
theorem mgN {rs : Grp} : ∀ r ∈ ([] : Grp), r ∈ rs := fun _ m => nomatch m
theorem mgE {g : Grp} : ∀ r ∈ g, r ∈ g := fun _ h => h
section
variable {K : PySem.W.Frag} {H Ho H' Ho' : Hp} {rs : Grp}
theorem sel_nodup {α β : Type} (f : α → β) (l : List (List α)) (is : List Nat) (hn : is.Nodup) (h : (l.flatten.map f).Nodup) : ((is.filterMap fun i => l[i]?).flatten.map f).Nodup := by
  rw [List.map_flatten] at h ⊢
  unfold List.Nodup at h ⊢
  rw [List.pairwise_flatten] at h ⊢
  have sub : ∀ g ∈ (is.filterMap fun i => l[i]?), g ∈ l := fun r hr => by
    obtain ⟨i, _, e⟩ := List.mem_filterMap.mp hr
    exact List.mem_of_getElem? e
  refine ⟨fun g hg => ?_, ?_⟩
  · obtain ⟨r, hr, rfl⟩ := List.mem_map.mp hg
    exact h.1 _ (List.mem_map.mpr ⟨r, sub r hr, rfl⟩)
  · rw [List.pairwise_map]
    have h2 := h.2
    rw [List.pairwise_map] at h2
    refine List.Pairwise.filterMap _ (fun i j hij a ha b hb => ?_) hn
    rw [List.pairwise_iff_getElem] at h2
    have hl1 := (List.getElem?_eq_some_iff.mp ha)
    have hl2 := (List.getElem?_eq_some_iff.mp hb)
    obtain ⟨hi, rfl⟩ := hl1
    obtain ⟨hj, rfl⟩ := hl2
    rcases Nat.lt_or_gt_of_ne hij with c | c
    · exact h2 i j hi hj c
    · exact fun x hx y hy e => h2 j i hj hi c y hy x hx e.symm
/-- some of the groups, in any order -/
theorem Zs.go {rs rs' : Grp} (gs : List Grp) (amb : Grp) (is : List Nat) (z : Zs rs H Ho) (h1 : rs = rowG gs amb := by rfl) (h2 : rs' = rowG (is.filterMap fun i => gs[i]?) amb := by rfl) (hn : is.Nodup := by decide) : Zs rs' H Ho := by
  subst h1 h2
  rw [rowG_eq] at z ⊢
  have sub : ∀ r ∈ (is.filterMap fun i => gs[i]?).flatten, r ∈ gs.flatten := fun r hr => by
    obtain ⟨g, hg, hr⟩ := List.mem_flatten.mp hr
    obtain ⟨i, _, e⟩ := List.mem_filterMap.mp hg
    exact List.mem_flatten.mpr ⟨g, List.mem_of_getElem? e, hr⟩
  have sub2 : ∀ r ∈ (is.filterMap fun i => gs[i]?).flatten ++ amb, r ∈ gs.flatten ++ amb := fun r hr => by
    rcases List.mem_append.mp hr with h | h
    · exact List.mem_append_left _ (sub r h)
    · exact List.mem_append_right _ h
  refine ⟨z.le, fun r hr => z.rt r (sub2 r hr), ?_, fun r hr => z.nt r (sub2 r hr)⟩
  · have nd := z.nd
    rw [List.map_append, List.nodup_append] at nd ⊢
    refine ⟨sel_nodup _ gs is hn nd.1, nd.2.1, fun a ha b hb e => ?_⟩
    obtain ⟨r, hr, rfl⟩ := List.mem_map.mp ha
    exact nd.2.2 _ (List.mem_map.mpr ⟨r, sub r hr, rfl⟩) b hb e
end
/-! ### ways, without data -/
section
variable {α β γ : Type} {Φ : γ → Prop}
theorem run_gd {p : Prop} {c : W γ} (h : (W.guard p c).run Φ) : p ∧ c.run Φ := h
theorem run_itT {A B : W γ} {b : Bool} (h : (W.ite b A B).run Φ) (e : b = true) : A.run Φ := h.1 e
theorem run_itF {A B : W γ} {b : Bool} (h : (W.ite b A B).run Φ) (e : b = false) : B.run Φ := h.2 e
theorem run_bret {e : β} {f : β → W γ} (h : (W.bind (W.ret e) f).run Φ) : (f e).run Φ := h
theorem w_two {b : Bool} {X Y : Prop} (h1 : b = true → X) (h2 : b = false → Y) : if b = true then X else Y := by
  cases b with
  | true => exact iteT (h1 rfl)
  | false => exact iteF (h2 rfl)
theorem run_mono' {c : W β} {N N' : β → Prop} (h : c.run N) (k : ∀ a, N a → N' a) : c.run N' := c.mono _ _ k h
theorem run_mono3 {c : W β} {f : β → W γ} {N : β → Prop} (hw : (W.bind c f).run Φ) (k : ∀ a, (f a).run Φ → N a) : c.run N := c.mono _ _ (fun r h => k r h) hw
theorem run_mono2 {c : W (α × β)} {f : α → β → W γ} {N : α × β → Prop} (hw : (W.bind2 c f).run Φ) (k : ∀ a b, (f a b).run Φ → N (a, b)) : c.run N := c.mono _ _ (fun r h => k r.1 r.2 h) hw
end
/-! ### lists of data of one's own -/
section
variable {K : PySem.W.Frag} {H Ho H' Ho' : Hp} {α β γ : Type} [Py α] [Py β] {Φ : γ → Prop} {R : Grp} {v w : V} {Q : VK}
def OL (K : PySem.W.Frag) (Ho : Hp) (v : V) (xs : List α) (g : Grp) : Prop := ∃ p vs, v = .ref p ∧ DL K Ho vs xs ∧ g = [(p, .lst vs)]
theorem OL.mo {v : V} {xs : List α} {g : Grp} (h : OL K Ho v xs g) (e : Same Ho Ho') : OL K Ho' v xs g := by
  obtain ⟨p, vs, rfl, d, rfl⟩ := h
  exact ⟨p, vs, rfl, DL.mo d e, rfl⟩
theorem OL.mk {p : Addr} {ws : List V} {xs : List α} (d : DL K Ho ws xs) : OL K Ho (.ref p) xs [(p, .lst ws)] := ⟨p, ws, rfl, d, rfl⟩
theorem OL.lv {xs : List α} {g : Grp} (h : OL K Ho v xs g) (m : ∀ r ∈ g, r ∈ R) : LV K R Ho v xs := by
  obtain ⟨p, vs, rfl, d, rfl⟩ := h
  exact ⟨p, vs, rfl, d, .inr (m _ (List.mem_singleton.mpr rfl))⟩
/-- a list of its own stands for good from now on -/
theorem OL.fr {xs : List α} {g : Grp} (h : OL K Ho v xs g) (z : Zs (g ++ R) H Ho) : ∃ Ho', Same Ho Ho' ∧ Zs R H Ho' ∧ Z.D K Ho' v xs := by
  obtain ⟨p, vs, rfl, d, rfl⟩ := h
  exact frz z d
theorem g_tyL {P : Prop} {xs : List α} (d : LV K R Ho v xs) (z : Zs R H Ho) (k : P) : tyV K "list" v H ∧ P := by
  obtain ⟨p, vs, rfl, _, s⟩ := LV.rd d z
  exact ⟨.inl ⟨rfl, _, (SqL.of s)⟩, k⟩
theorem g_app {xs : List α} {x : α} {g : Grp} {f : List α → W γ} (z : Zs (g ++ R) H Ho) (o : OL K Ho v xs g) (dx : Z.D K Ho w x) (hw : (W.bind (apd xs x) f).run Φ) (k : ∀ xs' g' H', Zs (g' ++ R) H' Ho → OL K Ho v xs' g' → (f xs').run Φ → Q .non H') : rAppend v [w] H Q := by
  obtain ⟨p, vs, rfl, d, rfl⟩ := o
  exact ⟨p, vs, w, rfl, rfl, z.head, by rw [DL.len d]; exact hw.1, k _ _ _ z.put ⟨p, _, rfl, d.push dx, rfl⟩ hw.2⟩
/-- xs.insert(i, x) -/
def insL {α : Type} (xs : List α) (i : Int) (x : α) : W (List α) := W.guard (xs.length < sizeLine ∧ 0 ≤ i ∧ i < 2 ^ 63) (W.ret (xs.take i.toNat ++ [x] ++ xs.drop i.toNat))
theorem g_ins {xs : List α} {x : α} {i : Int} {g : Grp} {f : List α → W γ} (z : Zs (g ++ R) H Ho) (o : OL K Ho v xs g) (dx : Z.D K Ho w x) (hw : (W.bind (insL xs i x) f).run Φ) (k : ∀ xs' g' H', Zs (g' ++ R) H' Ho → OL K Ho v xs' g' → (f xs').run Φ → Q .non H') :
    (fun x vs H Q => ∃ (l : Addr) (xs : List V) (i : Int) (y : V), x = .ref l ∧ vs = [.int i, y] ∧ H l = some (.lst xs) ∧ xs.length < sizeLine ∧ 0 ≤ i ∧ i < 2 ^ 63 ∧ Q .non (upd H l (.lst (xs.take i.toNat ++ [y] ++ xs.drop i.toNat))) : V → List V → Hp → VK → Prop) v [.int i, w] H Q := by
  obtain ⟨p, vs, rfl, d, rfl⟩ := o
  obtain ⟨⟨h1, h2, h3⟩, hw⟩ := hw
  refine ⟨p, vs, i, w, rfl, rfl, z.head, by rw [DL.len d]; exact h1, h2, h3, k _ _ _ z.put ⟨p, _, rfl, ?_, rfl⟩ hw⟩
  show DqAll _ _ _ ((xs.take i.toNat ++ [x] ++ xs.drop i.toNat).map Py.toPy)
  rw [List.map_append, List.map_append, List.map_take, List.map_drop]
  exact dpAll_append (dpAll_append (dpAll_take d _) (.cons dx .nil)) (dpAll_drop d _)
theorem g_clear {xs : List α} {g : Grp} (z : Zs (g ++ R) H Ho) (o : OL K Ho v xs g) (k : ∀ g' H', Zs (g' ++ R) H' Ho → OL K Ho v ([] : List α) g' → Q .non H') : rClear v [] H Q := by
  obtain ⟨p, vs, rfl, d, rfl⟩ := o
  exact ⟨p, vs, rfl, rfl, z.head, k _ _ z.put ⟨p, _, rfl, .nil, rfl⟩⟩
theorem g_sti {xs : List α} {x : α} {i : Int} {g : Grp} {QH : Hp → Prop} {f : List α → W γ} (z : Zs (g ++ R) H Ho) (o : OL K Ho v xs g) (dx : Z.D K Ho w x) (hw : (W.bind (sti xs i x) f).run Φ) (k : ∀ xs' g' H', Zs (g' ++ R) H' Ho → OL K Ho v xs' g' → (f xs').run Φ → QH H') : rSetL v (.int i) w H QH := by
  obtain ⟨p, vs, rfl, d, rfl⟩ := o
  obtain ⟨j, ej, hw⟩ := hw
  exact ⟨p, vs, i, j, rfl, rfl, z.head, by rw [DL.len d]; exact ej, k _ _ _ z.put ⟨p, _, rfl, DL.set d dx j, rfl⟩ hw⟩
theorem g_popI {xs : List α} {i : Int} {g : Grp} {f : α × List α → W γ} (z : Zs (g ++ R) H Ho) (o : OL K Ho v xs g) (hw : (W.bind (popI xs i) f).run Φ) (k : ∀ t xs' w g' H', Zs (g' ++ R) H' Ho → OL K Ho v xs' g' → Z.D K Ho w t → (f (t, xs')).run Φ → Q w H') : rPopAt v [.int i] H Q := by
  obtain ⟨p, vs, rfl, d, rfl⟩ := o
  exact y_popI (n := 0) z rfl d hw fun t xs' w ws' H' z' d' dw hw => k t xs' w _ H' z' ⟨p, _, rfl, d', rfl⟩ dw hw
/-! ### a value gets a name -/
def LetV (G : V → Prop) (v : V) : Prop := G v
theorem l_asg {u : TS} {te : TE} {D : Ends} {σ : L2.St} {i : Nat} (σ' : V → L2.St) (hσ : ∀ v, σ.set i (some v) = σ' v) (k : te σ H fun v H1 => LetV (fun v => u D (σ' v) H1) v) : tSeq (tAsg te (gName i)) u D σ H := by
  have e : (fun v H1 => LetV (fun v => u D (σ' v) H1) v) = fun v H1 => u D (σ.set i (some v)) H1 := by funext v H1; rw [hσ]; rfl
  rw [e] at k
  exact k
variable {G : V → Prop}
theorem l_i {e : Int} {f : Int → W γ} (hw : (W.bind (W.ret e) f).run Φ) (k : ∀ x, (f x).run Φ → G (.int x)) : LetV G (.int e) := k e hw
theorem l_b {e : Bool} {f : Bool → W γ} (hw : (W.bind (W.ret e) f).run Φ) (k : ∀ x, (f x).run Φ → G (.bl x)) : LetV G (.bl e) := k e hw
theorem l_d {e : α} {f : α → W γ} (hw : (W.bind (W.ret e) f).run Φ) (d : Z.D K Ho v e) (k : ∀ x v, Z.D K Ho v x → (f x).run Φ → G v) : LetV G v := k e v d hw
theorem l_o {e : List α} {g : Grp} {f : List α → W γ} (hw : (W.bind (W.ret e) f).run Φ) (z : Zs (g ++ R) H Ho) (o : OL K Ho v e g) (k : ∀ x v g, Zs (g ++ R) H Ho → OL K Ho v x g → (f x).run Φ → G v) : LetV G v := k e v g z o hw
/-- what is told stands for good -/
theorem l_fr {P : Prop} {xs : List α} {g : Grp} (o : OL K Ho v xs g) (z : Zs (g ++ R) H Ho) (k : ∀ Ho', Same Ho Ho' → Zs R H Ho' → Z.D K Ho' v xs → P) : P := by
  obtain ⟨Ho', e, z', d⟩ := o.fr z
  exact k Ho' e z' d
/-! ### ways -/
theorem w_t {X Y : Prop} (k : X) : if true = true then X else Y := by simpa using k
theorem w_orP {σ : L2.St} {tu : TT} {QB : Bool → Hp → Prop} {a : Bool} (b : Bool) (h : a = false → QB b H → tu σ H QB) (k : QB (a || b) H) : if a = true then QB true H else tu σ H QB := by
  cases a with
  | true => exact iteT k
  | false => exact iteF (h rfl k)
theorem w_andPV {σ : L2.St} {tb : TE} {a : Bool} (b : Bool) (h : a = true → Q (.bl b) H → tb σ H Q) (k : Q (.bl (a && b)) H) : if a = true then tb σ H Q else Q (.bl false) H := by
  cases a with
  | true => exact iteT (h rfl k)
  | false => exact iteF k
/-! ways that meet -/
section
variable {S ρ : Type} {b : Bool} {c1 c2 : W S} {f : S → W γ} {σ : L2.St} {D : Ends} {u t1 t2 : TS} {tu : TT} {ta tb : TE} {QB : Bool → Hp → Prop}
theorem w_ifJ (hw : (W.bind (W.ite b c1 c2) f).run Φ) (J : S → L2.St → Hp → Prop)
    (h1 : b = true → c1.run (fun s => ∀ σ' H', J s σ' H' → u D σ' H') → t1 { D with nx := u D } σ H)
    (h2 : b = false → c2.run (fun s => ∀ σ' H', J s σ' H' → u D σ' H') → t2 { D with nx := u D } σ H)
    (k : ∀ s σ' H', J s σ' H' → (f s).run Φ → u D σ' H') : if b = true then t1 { D with nx := u D } σ H else t2 { D with nx := u D } σ H := by
  cases b with
  | true => exact iteT (h1 rfl (W.mono _ _ _ (fun s q σ' H' j => k s σ' H' j q) (hw.1 rfl)))
  | false => exact iteF (h2 rfl (W.mono _ _ _ (fun s q σ' H' j => k s σ' H' j q) (hw.2 rfl)))
theorem w_ifC {Φ : ρ → Prop} {c1 c2 : W (Ctl ρ S)} {f : S → W ρ} (hw : (W.bind (W.ite b c1 c2) fun c => W.after c f).run Φ) (J : S → L2.St → Hp → Prop)
    (h1 : b = true → c1.run (CtlP (fun s => ∀ σ' H', J s σ' H' → u D σ' H') (fun s => ∀ σ' H', J s σ' H' → u D σ' H') Φ) → t1 { D with nx := u D } σ H)
    (h2 : b = false → c2.run (CtlP (fun s => ∀ σ' H', J s σ' H' → u D σ' H') (fun s => ∀ σ' H', J s σ' H' → u D σ' H') Φ) → t2 { D with nx := u D } σ H)
    (k : ∀ s σ' H', J s σ' H' → (f s).run Φ → u D σ' H') : if b = true then t1 { D with nx := u D } σ H else t2 { D with nx := u D } σ H := by
  have m : ∀ c : W (Ctl ρ S), c.run (fun c => (W.after c f).run Φ) → c.run (CtlP (fun s => ∀ σ' H', J s σ' H' → u D σ' H') (fun s => ∀ σ' H', J s σ' H' → u D σ' H') Φ) := fun c h => c.mono _ _ (fun r q => by
    cases r with
    | nx s => exact fun σ' H' j => k s σ' H' j q
    | bk s => exact fun σ' H' j => k s σ' H' j q
    | rt r => exact q) h
  cases b with
  | true => exact iteT (h1 rfl (m _ (hw.1 rfl)))
  | false => exact iteF (h2 rfl (m _ (hw.2 rfl)))
theorem w_andJ (hw : (W.bind (W.ite b c1 c2) f).run Φ) (J : S → Bool → Hp → Prop)
    (h1 : b = true → c1.run (fun s => ∀ v H', J s v H' → QB v H') → tu σ H QB)
    (h2 : b = false → c2.run (fun s => ∀ v H', J s v H' → QB v H') → QB false H)
    (k : ∀ s v H', J s v H' → (f s).run Φ → QB v H') : if b = true then tu σ H QB else QB false H := by
  cases b with
  | true => exact iteT (h1 rfl (W.mono _ _ _ (fun s q v H' j => k s v H' j q) (hw.1 rfl)))
  | false => exact iteF (h2 rfl (W.mono _ _ _ (fun s q v H' j => k s v H' j q) (hw.2 rfl)))
theorem w_orJ (hw : (W.bind (W.ite b c1 c2) f).run Φ) (J : S → Bool → Hp → Prop)
    (h1 : b = true → c1.run (fun s => ∀ v H', J s v H' → QB v H') → QB true H)
    (h2 : b = false → c2.run (fun s => ∀ v H', J s v H' → QB v H') → tu σ H QB)
    (k : ∀ s v H', J s v H' → (f s).run Φ → QB v H') : if b = true then QB true H else tu σ H QB := by
  cases b with
  | true => exact iteT (h1 rfl (W.mono _ _ _ (fun s q v H' j => k s v H' j q) (hw.1 rfl)))
  | false => exact iteF (h2 rfl (W.mono _ _ _ (fun s q v H' j => k s v H' j q) (hw.2 rfl)))
theorem w_andVJ (hw : (W.bind (W.ite b c1 c2) f).run Φ) (J : S → V → Hp → Prop)
    (h1 : b = true → c1.run (fun s => ∀ v H', J s v H' → Q v H') → tb σ H Q)
    (h2 : b = false → c2.run (fun s => ∀ v H', J s v H' → Q v H') → Q (.bl false) H)
    (k : ∀ s v H', J s v H' → (f s).run Φ → Q v H') : if b = true then tb σ H Q else Q (.bl false) H := by
  cases b with
  | true => exact iteT (h1 rfl (W.mono _ _ _ (fun s q v H' j => k s v H' j q) (hw.1 rfl)))
  | false => exact iteF (h2 rfl (W.mono _ _ _ (fun s q v H' j => k s v H' j q) (hw.2 rfl)))
theorem w_orVJ (hw : (W.bind (W.ite b c1 c2) f).run Φ) (J : S → V → Hp → Prop)
    (h1 : b = true → c1.run (fun s => ∀ v H', J s v H' → Q v H') → Q (.bl true) H)
    (h2 : b = false → c2.run (fun s => ∀ v H', J s v H' → Q v H') → tb σ H Q)
    (k : ∀ s v H', J s v H' → (f s).run Φ → Q v H') : if b = true then Q (.bl true) H else tb σ H Q := by
  cases b with
  | true => exact iteT (h1 rfl (W.mono _ _ _ (fun s q v H' j => k s v H' j q) (hw.1 rfl)))
  | false => exact iteF (h2 rfl (W.mono _ _ _ (fun s q v H' j => k s v H' j q) (hw.2 rfl)))
end
/-! ### targets -/
section
variable {δ ε : Type} [Py δ] [Py ε] {i j l m : Nat} {x : V} {σ : L2.St} {QS : L2.St → Hp → Prop} {rs : Grp}
theorem c_gt2 {a : α × β} (σ' : V → V → L2.St) (hσ : ∀ v u, (σ.set i (some v)).set j (some u) = σ' v u) (d : Z.D K Ho x a) (z : Zs rs H Ho) (k : ∀ v u, Z.D K Ho v a.1 → Z.D K Ho u a.2 → QS (σ' v u) H) : gTup K 2 (gCons (gName i) (gCons (gName j) gNil)) x σ H QS :=
  y_gt2 d z fun v u d1 d2 => by rw [hσ]; exact k v u d1 d2
theorem c_gt4 {a : P4 α β δ ε} (σ' : V → V → V → V → L2.St) (hσ : ∀ v u w t, (((σ.set i (some v)).set j (some u)).set l (some w)).set m (some t) = σ' v u w t) (d : Z.D K Ho x a) (z : Zs rs H Ho) (k : ∀ v u w t, Z.D K Ho v a.a → Z.D K Ho u a.b → Z.D K Ho w a.c → Z.D K Ho t a.d → QS (σ' v u w t) H) : gTup K 4 (gCons (gName i) (gCons (gName j) (gCons (gName l) (gCons (gName m) gNil)))) x σ H QS :=
  y_gt4 d z fun v u w t d1 d2 d3 d4 => by rw [hσ]; exact k v u w t d1 d2 d3 d4
end
/-! ### lists of unlike things -/
section
class Hc (α : Type) where
  cs : α → List PyData
structure H2 (α β : Type) where
  a : α
  b : β
  deriving DecidableEq
structure H3 (α β γ : Type) where
  a : α
  b : β
  c : γ
  deriving DecidableEq
structure H4 (α β γ δ : Type) where
  a : α
  b : β
  c : γ
  d : δ
  deriving DecidableEq
structure H5 (α β γ δ ε : Type) where
  a : α
  b : β
  c : γ
  d : δ
  e : ε
  deriving DecidableEq
instance {α β : Type} [Py α] [Py β] : Hc (H2 α β) := ⟨fun p => [toPy p.a, toPy p.b]⟩
instance {α β γ : Type} [Py α] [Py β] [Py γ] : Hc (H3 α β γ) := ⟨fun p => [toPy p.a, toPy p.b, toPy p.c]⟩
instance {α β γ δ : Type} [Py α] [Py β] [Py γ] [Py δ] : Hc (H4 α β γ δ) := ⟨fun p => [toPy p.a, toPy p.b, toPy p.c, toPy p.d]⟩
instance {α β γ δ ε : Type} [Py α] [Py β] [Py γ] [Py δ] [Py ε] : Hc (H5 α β γ δ ε) := ⟨fun p => [toPy p.a, toPy p.b, toPy p.c, toPy p.d, toPy p.e]⟩
instance {α : Type} [Hc α] : Py α := ⟨fun p => .list (Hc.cs p)⟩
variable {η : Type} [Hc η]
def OH (K : PySem.W.Frag) (Ho : Hp) (v : V) (x : η) (g : Grp) : Prop := ∃ p vs, v = .ref p ∧ DqAll K Ho vs (Hc.cs x) ∧ g = [(p, .lst vs)]
theorem OH.mo {v : V} {x : η} {g : Grp} (h : OH K Ho v x g) (e : Same Ho Ho') : OH K Ho' v x g := by
  obtain ⟨p, vs, rfl, d, rfl⟩ := h
  exact ⟨p, vs, rfl, dpAll_mono e _ _ d, rfl⟩
theorem atI_dq {vs : List V} {ds : List PyData} {i : Int} {d : PyData} (h : DqAll K H vs ds) (e : atI ds i = some d) : ∃ v, atI vs i = some v ∧ Dq K H v d := by
  unfold atI at e ⊢
  rw [dpAll_len h]
  cases q : ixN ds.length i with
  | none => rw [q] at e; cases e
  | some j => rw [q] at e; exact dpAll_get h e
theorem h_ix {x : η} {y : β} {i : Int} {g : Grp} (o : OH K Ho v x g) (z : Zs (g ++ R) H Ho) (hj : atI (Hc.cs x) i = some (toPy y)) (k : ∀ w, Z.D K Ho w y → Q w H) : rIxL K v (.int i) H Q := by
  obtain ⟨p, vs, rfl, d, rfl⟩ := o
  obtain ⟨w, ew, dw⟩ := atI_dq d hj
  exact ⟨p, vs, i, w, rfl, rfl, SqL.of z.head, ew, k w dw⟩
theorem h_st {x y : η} {e : β} {i : Int} {j : Nat} {g : Grp} {QH : Hp → Prop} (z : Zs (g ++ R) H Ho) (o : OH K Ho v x g) (dx : Z.D K Ho w e) (hj : ixN (Hc.cs x).length i = some j) (hy : Hc.cs y = (Hc.cs x).set j (toPy e)) (k : ∀ g' H', Zs (g' ++ R) H' Ho → OH K Ho v y g' → QH H') : rSetL v (.int i) w H QH := by
  obtain ⟨p, vs, rfl, d, rfl⟩ := o
  refine ⟨p, vs, i, j, rfl, rfl, z.head, by rw [dpAll_len d]; exact hj, k _ _ z.put ⟨p, _, rfl, ?_, rfl⟩⟩
  rw [hy]
  exact dpAll_set d dx j
theorem OH.fr {x : η} {g : Grp} (h : OH K Ho v x g) (z : Zs (g ++ R) H Ho) : ∃ Ho', Same Ho Ho' ∧ Zs R H Ho' ∧ Z.D K Ho' v x := by
  obtain ⟨p, vs, rfl, d, rfl⟩ := h
  have z : Zs ((p, .lst vs) :: R) H Ho := z
  have e : Same Ho (upd Ho p (.lst vs)) := Same.new z.headN
  exact ⟨_, e, z.freeze, .lst upd_same (dpAll_mono e _ _ d)⟩
theorem h_nm {P : Prop} {e : η} {g : Grp} {f : η → W γ} (hw : (W.bind (W.ret e) f).run Φ) (o : OH K Ho v e g) (k : ∀ x, OH K Ho v x g → (f x).run Φ → P) : P := k e o hw
theorem h_nmL {P : Prop} {e : List α} {g : Grp} {f : List α → W γ} (hw : (W.bind (W.ret e) f).run Φ) (o : OL K Ho v e g) (k : ∀ x, OL K Ho v x g → (f x).run Φ → P) : P := k e o hw
theorem h_o {G : V → Prop} {e : η} {g : Grp} {f : η → W γ} (hw : (W.bind (W.ret e) f).run Φ) (z : Zs (g ++ R) H Ho) (o : OH K Ho v e g) (k : ∀ x v g, Zs (g ++ R) H Ho → OH K Ho v x g → (f x).run Φ → G v) : LetV G v := k e v g z o hw
/-- the display [a, b, ..] of unlike things -/
theorem h_lst {vs : List V} {x : η} (z : Zs R H Ho) (hx : DqAll K Ho vs (Hc.cs x)) (hl : vs.length ≤ sizeLine) (k : ∀ H' p g, Zs (g ++ R) H' Ho → OH K Ho (.ref p) x g → Q (.ref p) H') : vs.length ≤ sizeLine ∧ ∀ p, H p = none → Q (.ref p) (upd H p (.lst vs)) :=
  ⟨hl, fun p hp => k _ p _ (z.root hp) ⟨p, _, rfl, hx, rfl⟩⟩
end
end
section
variable {K : PySem.W.Frag} {H Ho H' Ho' : Hp} {α β γ : Type} [Py α] [Py β] {Φ : γ → Prop} {R rs : Grp} {v w : V} {Q : VK} {σ : L2.St}
theorem y_get {P : Prop} {x : Option β} {f : β → W γ} (d : Z.D K Ho v x) (hw : (W.bind (W.opt x) f).run Φ) (k : ∀ t, Z.D K Ho v t → (f t).run Φ → P) : P := by
  obtain ⟨t, rfl, hw⟩ := hw
  exact k t d hw
end
/-! ### what is asked of a value, not taken apart too early -/
section
variable {K : PySem.W.Frag} {H Ho H' Ho' : Hp} {α β γ : Type} [Py α] [Py β] {Φ : γ → Prop} {rs r0 : Grp} {v w u : V} {vs : List V} {Q : VK} {σ : L2.St} {ts : TA} {te : TE} {R : It → Hp → Prop}
def LstK (Q : VK) (vs : List V) (H : Hp) : Prop := vs.length ≤ sizeLine ∧ ∀ p, H p = none → Q (.ref p) (upd H p (.lst vs))
def TupK (Q : VK) (vs : List V) (H : Hp) : Prop := vs.length ≤ sizeLine ∧ ∀ p, H p = none → Q (.ref p) (upd H p (.tup vs))
theorem k_lst (k : ts σ H fun xs H1 => LstK Q xs H1) : tLst ts σ H Q := k
theorem k_tup (k : ts σ H fun xs H1 => TupK Q xs H1) : tTup ts σ H Q := k
theorem k_lstk {xs : List α} (z : Zs rs H Ho) (d : DL K Ho vs xs) (hl : vs.length ≤ sizeLine) (k : ∀ H' p ws, Zs ((p, .lst ws) :: rs) H' Ho → DL K Ho ws xs → Q (.ref p) H') : LstK Q vs H := y_lstk z d hl k
theorem k_tupk {x : α} (z : Zs rs H Ho) (hl : vs.length ≤ sizeLine) (ds : List PyData) (hx : toPy x = .tuple ds) (d : DqAll K Ho vs ds) (k : ∀ p H' Ho', Same Ho Ho' → Zs rs H' Ho' → Z.D K Ho' (.ref p) x → Q (.ref p) H') : TupK Q vs H := y_tupk z hl ds hx d k
theorem k_hlst {η : Type} [Hc η] {x : η} (z : Zs rs H Ho) (hx : DqAll K Ho vs (Hc.cs x)) (hl : vs.length ≤ sizeLine) (k : ∀ H' p g, Zs (g ++ rs) H' Ho → OH K Ho (.ref p) x g → Q (.ref p) H') : LstK Q vs H := h_lst z hx hl k
def SrcL (K : PySem.W.Frag) (R : It → Hp → Prop) (x : V) (H : Hp) : Prop := ∃ a, x = .ref a ∧ (∃ xs, SqL K H a xs) ∧ R (Itl K a) H
def SrcT (K : PySem.W.Frag) (R : It → Hp → Prop) (x : V) (H : Hp) : Prop := ∃ a, x = .ref a ∧ (∃ xs, SqT K H a xs) ∧ R (Itt K a) H
def Src1 (R : It → Hp → Prop) (vs : List V) (H : Hp) : Prop := ∃ j : Int, vs = [.int j] ∧ -(2 ^ 62) ≤ j ∧ j < 2 ^ 62 ∧ R (Itr 0 j.toNat) H
theorem k_iList (k : te σ H fun x H1 => SrcL K R x H1) : iList K te σ H R := k
theorem k_iTup (k : te σ H fun x H1 => SrcT K R x H1) : iTup K te σ H R := k
theorem k_iR1 (k : ts σ H fun vs H1 => Src1 R vs H1) : iRng1 ts σ H R := k
theorem k_srcL {xs : List α} (d : LV K r0 Ho v xs) (hs : ∀ r ∈ r0, r ∈ rs) (z : Zs rs H Ho) (k : ∀ J, Trn K r0 J xs Ho → R J H) : SrcL K R v H := y_srcL d hs z k
theorem k_srcT {x : β} {xs : List α} (d : Z.D K Ho v x) (hf : toPy x = .tuple (xs.map Py.toPy)) (z : Zs rs H Ho) (k : ∀ J, Trn K [] J xs Ho → R J H) : SrcT K R v H := y_srcT d hf z k
theorem k_srcR1 {n : Int} (hg : rngOk 0 n) (k : ∀ J, Trn K [] J (rng 0 n) Ho → R J H) : Src1 R [V.int n] H := y_srcR1 hg k
theorem y_nxS {D : Ends} {u : TS} (k : u D σ H) : tNext { D with nx := u D } σ H := k
end
section
variable {K : PySem.W.Frag} {H Ho H' Ho' : Hp} {α β γ : Type} [Py α] [Py β] {Φ : γ → Prop} {rs R : Grp} {v w : V} {Q : VK} {σ : L2.St} {ta : TA} {D : Ends} {u : TS} {i j : Nat}
theorem not_isNone {x : Option β} : (!x.isNone) = x.isSome := by cases x <;> rfl
def rInsert : V → List V → Hp → VK → Prop := fun x vs H Q => ∃ (l : Addr) (xs : List V) (i : Int) (y : V), x = .ref l ∧ vs = [.int i, y] ∧ H l = some (.lst xs) ∧ xs.length < sizeLine ∧ 0 ≤ i ∧ i < 2 ^ 63 ∧ Q .non (upd H l (.lst (xs.take i.toNat ++ [y] ++ xs.drop i.toNat)))
theorem zmt_insert {X : Cx} : MtR X "list.insert" rInsert := mt_insert
theorem k_ins {xs : List α} {x : α} {i : Int} {g : Grp} {f : List α → W γ} (z : Zs (g ++ R) H Ho) (o : OL K Ho v xs g) (dx : Z.D K Ho w x) (hw : (W.bind (insL xs i x) f).run Φ) (k : ∀ xs' g' H', Zs (g' ++ R) H' Ho → OL K Ho v xs' g' → (f xs').run Φ → Q .non H') : rInsert v [.int i, w] H Q := g_ins z o dx hw k
end
end Z
/-! # dicts with int keys and with keys of two ints -/
namespace Z
open PySem L2
theorem room1 {k : Nat} {A : Around} (r : Room k A) : A.units + 1 < cLine := by have := r.un; omega
abbrev Dc (κ α : Type) := List (κ × α)
section
variable {κ α : Type} [DecidableEq κ]
def valM (m : Dc κ α) (k : κ) : Option α := (m.find? fun p => decide (p.1 = k)).map (·.2)
def putM (m : Dc κ α) (k : κ) (a : α) : Dc κ α := if (m.any fun p => decide (p.1 = k)) = true then m.map (fun p => if p.1 = k then (p.1, a) else p) else m ++ [(k, a)]
def putG (m : Dc κ α) (k : κ) (a : α) : W (Dc κ α) := W.guard (m.length < sizeLine) (W.ret (putM m k a))
end
class DKey (κ : Type) [Py κ] where
  kt : Type
  dec : DecidableEq kt
  key : κ → kt
  inj : ∀ {a b : κ}, key a = key b → a = b
  ho : List (kt × V) → HO
  nt : ∀ kvs, NotTup (ho kvs) := by intro kvs; exact trivial
  get : ∀ {K : PySem.W.Frag} {H Ho : Hp} {v : V} {k : κ} {p : Addr} {kvs : List (kt × V)}, H p = some (ho kvs) → Same Ho H → Z.D K Ho v k → DGet H p v (@valV kt dec kvs (key k))
  put : ∀ {K : PySem.W.Frag} {H Ho : Hp} {v y : V} {k : κ} {p : Addr} {kvs : List (kt × V)}, H p = some (ho kvs) → Same Ho H → Z.D K Ho v k → kvs.length < sizeLine → DPut H p v y (upd H p (ho (@putK kt dec kvs (key k) y)))
  isd : ∀ {H : Hp} {p : Addr} {kvs : List (kt × V)}, H p = some (ho kvs) → IsD H p
instance : DKey Int where
  kt := L2.Key
  dec := inferInstance
  key i := .inl i
  inj h := by cases h; rfl
  ho := .dK
  get e _ d := by rw [d_int d]; exact DGet.k (k := .inl _) e
  put e _ d h := by rw [d_int d]; exact DPut.k (k := .inl _) e h
  isd e := .inl ⟨_, .inl e⟩
instance : DKey (Int × Int) where
  kt := List L2.Key
  dec := inferInstance
  key p := [.inl p.1, .inl p.2]
  inj h := by
    rename_i a b
    obtain ⟨a1, a2⟩ := a
    obtain ⟨b1, b2⟩ := b
    simp only [List.cons.injEq, Sum.inl.injEq, and_true] at h
    rw [h.1, h.2]
  ho := .dT
  get e s d := by
    cases d with
    | tup hs ha =>
      cases ha with
      | cons h1 h2 =>
        cases h2 with
        | cons h3 h4 =>
          cases h4
          rw [d_int h1, d_int h3] at hs
          exact DGet.t e (s _ _ hs)
  put e s d h := by
    cases d with
    | tup hs ha =>
      cases ha with
      | cons h1 h2 =>
        cases h2 with
        | cons h3 h4 =>
          cases h4
          rw [d_int h1, d_int h3] at hs
          exact DPut.t e (s _ _ hs) h
  isd e := .inr ⟨_, .inl e⟩
section
variable {K : PySem.W.Frag} {H Ho H' Ho' : Hp} {κ α γ : Type} [Py κ] [DecidableEq κ] [DKey κ] [Py α] {Φ : γ → Prop} {R : Grp} {v w u : V} {Q : VK} {σ : L2.St}
def DM (K : PySem.W.Frag) (Ho : Hp) (kvs : List (DKey.kt κ × V)) (m : Dc κ α) : Prop := kvs.map (·.1) = m.map (fun p => DKey.key p.1) ∧ DL K Ho (kvs.map (·.2)) (m.map (·.2))
theorem DM.len {kvs : List (DKey.kt κ × V)} {m : Dc κ α} (h : DM K Ho kvs m) : kvs.length = m.length := by
  have := congrArg List.length h.1
  simpa using this
theorem DM.val : ∀ {kvs : List (DKey.kt κ × V)} {m : Dc κ α}, DM K Ho kvs m → ∀ k : κ, (valM m k = none → @valV _ DKey.dec kvs (DKey.key k) = none) ∧ ∀ a, valM m k = some a → ∃ x, @valV _ DKey.dec kvs (DKey.key k) = some x ∧ Z.D K Ho x a
  | [], [], _, k => ⟨fun _ => rfl, fun a e => by cases e⟩
  | [], _ :: _, h, _ => by cases h.1
  | _ :: _, [], h, _ => by cases h.1
  | (k1, x) :: kvs, (k2, a) :: m, h, k => by
    obtain ⟨h1, h2⟩ := h
    simp only [List.map_cons, List.cons.injEq] at h1
    cases h2 with
    | cons d ds =>
      have ih := DM.val (kvs := kvs) (m := m) ⟨h1.2, ds⟩ k
      by_cases c : k2 = k
      · have e1 : valM ((k2, a) :: m) k = some a := by simp [valM, List.find?_cons, c]
        have e2 : @valV _ DKey.dec ((k1, x) :: kvs) (DKey.key k) = some x := @valV_pos _ DKey.dec (k1, x) kvs (DKey.key k) (by rw [← c]; exact h1.1)
        rw [e1, e2]
        exact ⟨fun z => (nomatch z), fun b e => ⟨x, rfl, by cases e; exact d⟩⟩
      · have e1 : valM ((k2, a) :: m) k = valM m k := by simp [valM, List.find?_cons, c]
        have e2 : @valV _ DKey.dec ((k1, x) :: kvs) (DKey.key k) = @valV _ DKey.dec kvs (DKey.key k) := @valV_neg _ DKey.dec (k1, x) kvs (DKey.key k) (fun z => c (DKey.inj (h1.1.symm.trans z)))
        rw [e1, e2]
        exact ih
theorem valM_any (k : κ) : ∀ m : Dc κ α, (m.any fun p => decide (p.1 = k)) = (valM m k).isSome
  | [] => rfl
  | p :: r => by
    rw [List.any_cons]
    by_cases e : p.1 = k
    · have : valM (p :: r) k = some p.2 := by simp [valM, List.find?_cons, e]
      rw [this, decide_eq_true e]; rfl
    · have : valM (p :: r) k = valM r k := by simp [valM, List.find?_cons, e]
      rw [this, decide_eq_false e, Bool.false_or, valM_any k r]
theorem DM.some {kvs : List (DKey.kt κ × V)} {m : Dc κ α} (h : DM K Ho kvs m) (k : κ) : (@valV _ DKey.dec kvs (DKey.key k)).isSome = (valM m k).isSome := by
  obtain ⟨h1, h2⟩ := h.val k
  cases e : valM m k with
  | none => rw [h1 e]; rfl
  | some a => obtain ⟨x, ex, _⟩ := h2 a e; rw [ex]; rfl
theorem DM.mapped {x : V} {a : α} (k : κ) (d : Z.D K Ho x a) : ∀ {kvs : List (DKey.kt κ × V)} {m : Dc κ α}, DM K Ho kvs m →
    DM K Ho (kvs.map fun kv => @ite _ (kv.1 = DKey.key k) (DKey.dec kv.1 (DKey.key k)) (kv.1, x) kv) (m.map fun p => if p.1 = k then (p.1, a) else p)
  | [], [], _ => ⟨rfl, .nil⟩
  | [], _ :: _, h => by cases h.1
  | _ :: _, [], h => by cases h.1
  | (k1, y) :: kvs, (k2, b) :: m, h => by
    obtain ⟨h1, h2⟩ := h
    simp only [List.map_cons, List.cons.injEq] at h1
    cases h2 with
    | cons e es =>
      obtain ⟨i1, i2⟩ := DM.mapped k d (kvs := kvs) (m := m) ⟨h1.2, es⟩
      by_cases c : k2 = k
      · have c' : k1 = DKey.key k := by rw [← c]; exact h1.1
        refine ⟨?_, ?_⟩
        · rw [List.map_cons, List.map_cons, List.map_cons, List.map_cons, i1, if_pos c, if_pos c']
          show k1 :: _ = DKey.key k2 :: _
          rw [h1.1]
        · rw [List.map_cons, List.map_cons, List.map_cons, List.map_cons, if_pos c, if_pos c']
          exact .cons d i2
      · have c' : ¬ k1 = DKey.key k := fun z => c (DKey.inj (h1.1.symm.trans z))
        refine ⟨?_, ?_⟩
        · rw [List.map_cons, List.map_cons, List.map_cons, List.map_cons, i1, if_neg c, if_neg c']
          show k1 :: _ = DKey.key k2 :: _
          rw [h1.1]
        · rw [List.map_cons, List.map_cons, List.map_cons, List.map_cons, if_neg c, if_neg c']
          exact .cons e i2
theorem DM.put {x : V} {a : α} {k : κ} {kvs : List (DKey.kt κ × V)} {m : Dc κ α} (h : DM K Ho kvs m) (d : Z.D K Ho x a) : DM K Ho (@putK _ DKey.dec kvs (DKey.key k) x) (putM m k a) := by
  unfold putK putM
  rw [@valV_any _ DKey.dec, valM_any, h.some k]
  split
  · exact DM.mapped k d h
  · refine ⟨?_, ?_⟩
    · rw [List.map_append, List.map_append, h.1]; rfl
    · rw [List.map_append, List.map_append]
      exact DL.push h.2 d
theorem DM.mo {kvs : List (DKey.kt κ × V)} {m : Dc κ α} (h : DM K Ho kvs m) (e : Same Ho Ho') : DM K Ho' kvs m := ⟨h.1, DL.mo h.2 e⟩
/-- a dict of its own -/
def OD (K : PySem.W.Frag) (Ho : Hp) (v : V) (m : Dc κ α) (g : Grp) : Prop := ∃ p kvs, v = .ref p ∧ DM K Ho kvs m ∧ g = [(p, DKey.ho (κ := κ) kvs)]
theorem OD.mo {m : Dc κ α} {g : Grp} (h : OD K Ho v m g) (e : Same Ho Ho') : OD K Ho' v m g := by
  obtain ⟨p, kvs, rfl, d, rfl⟩ := h
  exact ⟨p, kvs, rfl, d.mo e, rfl⟩
/-- a dict that is read -/
def BD (K : PySem.W.Frag) (R : Grp) (Ho : Hp) (v : V) (m : Dc κ α) : Prop := ∃ g, OD K Ho v m g ∧ ∀ r ∈ g, r ∈ R
theorem BD.mo {m : Dc κ α} (h : BD K R Ho v m) (e : Same Ho Ho') : BD K R Ho' v m := by
  obtain ⟨g, o, s⟩ := h
  exact ⟨g, o.mo e, s⟩
theorem BD.sub {m : Dc κ α} {R' : Grp} (h : BD K R Ho v m) (e : ∀ r ∈ R, r ∈ R') : BD K R' Ho v m := by
  obtain ⟨g, o, s⟩ := h
  exact ⟨g, o, fun r m => e r (s r m)⟩
theorem BD.rd {m : Dc κ α} (h : BD K R Ho v m) (z : Zs R H Ho) : ∃ p kvs, v = .ref p ∧ DM K Ho kvs m ∧ H p = some (DKey.ho (κ := κ) kvs) := by
  obtain ⟨g, ⟨p, kvs, rfl, d, rfl⟩, s⟩ := h
  exact ⟨p, kvs, rfl, d, (z.rt _ (s _ (List.mem_singleton.mpr rfl))).1⟩
theorem d_o {G : V → Prop} {e : Dc κ α} {g : Grp} {f : Dc κ α → W γ} (hw : (W.bind (W.ret e) f).run Φ) (z : Zs (g ++ R) H Ho) (o : OD K Ho v e g) (k : ∀ x v g, Zs (g ++ R) H Ho → OD K Ho v x g → (f x).run Φ → G v) : LetV G v := k e v g z o hw
theorem g_dnewK (z : Zs R H Ho) (k : ∀ H' v g, Zs (g ++ R) H' Ho → OD K Ho v ([] : Dc Int α) g → Q v H') : tDNewK σ H Q := fun p hp => k _ _ _ (z.root hp) ⟨p, [], rfl, ⟨rfl, .nil⟩, rfl⟩
theorem g_dnewT (z : Zs R H Ho) (k : ∀ H' v g, Zs (g ++ R) H' Ho → OD K Ho v ([] : Dc (Int × Int) α) g → Q v H') : tDNewT σ H Q := fun p hp => k _ _ _ (z.root hp) ⟨p, [], rfl, ⟨rfl, .nil⟩, rfl⟩
/-! reading -/
theorem zsl_tup {X : Cx} (hK : X.K = K) : SlR X (rSlT K) := hK ▸ sl_tup
theorem dpAll_cut {vs : List V} {ds : List PyData} (h : DqAll K H vs ds) (lo hi : Option Int) : DqAll K H (cutV vs lo hi) (Z.cut ds lo hi) := by
  unfold cutV Z.cut
  rw [dpAll_len h]
  exact dpAll_take (dpAll_drop h _) _
theorem y_slT {β δ : Type} [Py β] [Py δ] {x : β} {y : δ} {lo hi : Option Int} (d : Z.D K Ho v x) (z : Zs R H Ho) (hj : ∃ ds, toPy x = .tuple ds ∧ ¬ (HT.sIx ds.length 0 lo = 0 ∧ HT.sIx ds.length ds.length hi = ds.length) ∧ toPy y = .tuple (Z.cut ds lo hi))
    (k : ∀ p H' Ho', Same Ho Ho' → Zs R H' Ho' → Z.D K Ho' (.ref p) y → Q (.ref p) H') : rSlT K v lo hi H Q := by
  obtain ⟨ds, e1, e2, e3⟩ := hj
  have d : Dq K Ho v (toPy x) := d
  rw [e1] at d
  cases d with
  | tup hs ha =>
    refine ⟨_, _, rfl, SqT.of (z.le _ _ hs), by rw [dpAll_len ha]; exact e2, fun q hq => ?_⟩
    have nf := z.free hq
    refine k q _ _ (Same.new nf) (z.alloc hq) ?_
    show Dq K _ _ (toPy y)
    rw [e3]
    exact .tup upd_same (dpAll_mono (Same.new nf) _ _ (dpAll_cut ha lo hi))
/-! tuples of one kind, of any length -/
def GGet (Q : VK) (x y : V) (H : Hp) : Prop := ∃ a v, x = .ref a ∧ DGet H a y (some v) ∧ Q v H
def GIn (Q : VK) (x y : V) (H : Hp) : Prop := ∃ a o, x = .ref a ∧ DGet H a y o ∧ Q (.bl o.isSome) H
def GNotIn (Q : VK) (x y : V) (H : Hp) : Prop := ∃ a o, x = .ref a ∧ DGet H a y o ∧ Q (.bl (!o.isSome)) H
def GGet2 (Q : VK) (a : Addr) (y z : V) (H : Hp) : Prop := ∃ o, DGet H a y o ∧ Q (o.getD z) H
def GPut (N : Hp → Prop) (x y v : V) (H : Hp) : Prop := ∃ a H4, x = .ref a ∧ DPut H a y v H4 ∧ N H4
section
variable {td ty tx tv : TE} {un : TS} {D : Ends}
theorem y_dget (k : td σ H fun x H1 => ty σ H1 fun y H2 => GGet Q x y H2) : tDGet td ty σ H Q := k
theorem y_din (k : ty σ H fun y H1 => td σ H1 fun x H2 => GIn Q x y H2) : tDIn ty td σ H Q := k
theorem y_dnotin (k : ty σ H fun y H1 => td σ H1 fun x H2 => GNotIn Q x y H2) : tDNotIn ty td σ H Q := k
theorem y_dget2 (k : td σ H fun x H1 => ∃ a, x = .ref a ∧ IsD H1 a ∧ ty σ H1 fun y H2 => tx σ H2 fun z H3 => GGet2 Q a y z H3) : tDGet2 td ty tx σ H Q := k
theorem y_dput (k : tv σ H fun v H1 => td σ H1 fun x H2 => ty σ H2 fun y H3 => GPut (fun H4 => un D σ H4) x y v H3) : tSeq (sDPut td ty tv) un D σ H := k
end
theorem g_dget {m : Dc κ α} {k : κ} {f : α → W γ} (b : BD K R Ho v m) (z : Zs R H Ho) (dk : Z.D K Ho w k) (hw : (W.bind (W.opt (valM m k)) f).run Φ) (kk : ∀ t u, Z.D K Ho u t → (f t).run Φ → Q u H) : GGet Q v w H := by
  obtain ⟨p, kvs, rfl, d, e⟩ := b.rd z
  obtain ⟨a, ea, hw⟩ := hw
  obtain ⟨x, ex, dx⟩ := (d.val k).2 a ea
  exact ⟨p, x, rfl, ex ▸ DKey.get e z.le dk, kk a x dx hw⟩
theorem g_din {m : Dc κ α} {k : κ} (b : BD K R Ho v m) (z : Zs R H Ho) (dk : Z.D K Ho w k) (kk : Q (.bl (valM m k).isSome) H) : GIn Q v w H := by
  obtain ⟨p, kvs, rfl, d, e⟩ := b.rd z
  exact ⟨p, _, rfl, DKey.get e z.le dk, by rw [d.some k]; exact kk⟩
theorem g_dnotin {m : Dc κ α} {k : κ} (b : BD K R Ho v m) (z : Zs R H Ho) (dk : Z.D K Ho w k) (kk : Q (.bl (!(valM m k).isSome)) H) : GNotIn Q v w H := by
  obtain ⟨p, kvs, rfl, d, e⟩ := b.rd z
  exact ⟨p, _, rfl, DKey.get e z.le dk, by rw [d.some k]; exact kk⟩
theorem g_isd {m : Dc κ α} {P : Addr → Prop} (b : BD K R Ho v m) (z : Zs R H Ho) (kk : ∀ a, v = .ref a → P a) : ∃ a, v = .ref a ∧ IsD H a ∧ P a := by
  obtain ⟨p, kvs, rfl, d, e⟩ := b.rd z
  exact ⟨p, rfl, DKey.isd e, kk p rfl⟩
theorem g_dget2 {m : Dc κ α} {k : κ} {a : Addr} {x : α} (ea : v = .ref a) (b : BD K R Ho v m) (z : Zs R H Ho) (dk : Z.D K Ho w k) (dx : Z.D K Ho u x) (kk : ∀ y, Z.D K Ho y ((valM m k).getD x) → Q y H) : GGet2 Q a w u H := by
  obtain ⟨p, kvs, e1, d, e⟩ := b.rd z
  rw [ea] at e1
  cases e1
  refine ⟨_, DKey.get e z.le dk, kk _ ?_⟩
  obtain ⟨h1, h2⟩ := d.val k
  cases q : valM m k with
  | none => rw [h1 q]; exact dx
  | some x => obtain ⟨y, ey, dy⟩ := h2 x q; rw [ey]; exact dy
theorem g_dput {m : Dc κ α} {k : κ} {x : α} {g : Grp} {N : Hp → Prop} {f : Dc κ α → W γ} (z : Zs (g ++ R) H Ho) (o : OD K Ho v m g) (dk : Z.D K Ho w k) (dx : Z.D K Ho u x) (hw : (W.bind (putG m k x) f).run Φ) (kk : ∀ m' g' H', Zs (g' ++ R) H' Ho → OD K Ho v m' g' → (f m').run Φ → N H') : GPut N v w u H := by
  obtain ⟨p, kvs, rfl, d, rfl⟩ := o
  obtain ⟨hl, hw⟩ := hw
  exact ⟨p, _, rfl, DKey.put z.head z.le dk (by rw [d.len]; exact hl), kk _ _ _ (z.put (hn := DKey.nt _)) ⟨p, _, rfl, d.put dx, rfl⟩ hw⟩
end
end Z
/-! # d.setdefault(k, v), k a tuple -/
namespace Z
open PySem PySem.Spec PyProof.Rows L2
section
variable {X : Cx} {pins : List (Addr × Obj)} {σ : L2.St} {H : Hp} {s : Shared} {a b : Addr} {kvs : List (List L2.Key × V)} {k : List L2.Key} {z : V} {r : Value} {A : Around} {E : Value → Shared → Prop}
theorem d_setdT {Q : Value → Shared → Prop} (hu : A.units + 1 < cLine) (I : Inv X pins σ H s) (e : H a = some (.dT kvs)) (eb : H b = some (.tup (k.map kV))) (l : kvs.length < sizeLine) (rz : RelV z r)
    (h1 : ∀ u w' s', valV kvs k = some u → RelV u w' → Inv X pins σ H s' → Q w' s') (h2 : valV kvs k = none → ∀ s', Inv X pins σ (upd H a (.dT (putK kvs k z))) s' → Q r s') :
    wpAny (model X.prog X.w) A (call (.builtin "dict.setdefault") [.ref a, .ref b, r]) Q E s := by
  obtain ⟨zz, hd, xs, rel, dd⟩ := dt_of I.hok e
  have hz : xs.length ≤ sizeLine := by rw [← Paired.length rel]; exact zz
  have hl : (putK kvs k z).length ≤ sizeLine := by have := length_putK kvs k z; omega
  have rv := rel.val k
  refine call_setdefault_heap (hsz := hz) (tupleKind_room_in1 hu) (key_of I.hok eb) hd dd (fun p hp => ?_) (fun hn h' dd' hs => ?_)
  · rw [hp] at rv
    cases hv : valV kvs k with
    | none => rw [hv] at rv; cases rv
    | some u =>
      rw [hv] at rv
      obtain ⟨w', hw, rw'⟩ := RelO.some_of (v := u) (o := some p.2) rv
      cases hw
      exact h1 u _ _ hv rw' (I.tok _)
  · rw [hn] at rv
    cases hv : valV kvs k with
    | some u =>
      rw [hv] at rv
      obtain ⟨w', hw, _⟩ := RelO.some_of (v := u) (o := none) rv
      cases hw
    | none =>
      refine h2 hv _ ?_
      obtain ⟨q, es, ep, hq, g2, g3, g4, _, g5⟩ := dd'
      refine d_write I (by rw [e]; exact True.intro) hs ⟨q, hq⟩ ⟨hl, hd, _, (rel.put k eb rz).keeps fun c ys ec => ?_, q, es, ep, hq, g2, g3, g4, g5⟩
      rw [upd_ne (ne_of ec e (fun z => nomatch z))]
      exact ec
def tDSetd (td ty tx : TE) : TE := fun σ H Q => td σ H fun x H1 => ∃ a, x = .ref a ∧ IsD H1 a ∧ ty σ H1 fun y H2 => tx σ H2 fun z H3 => ∃ kvs k b, H3 a = some (.dT kvs) ∧ y = .ref b ∧ H3 b = some (.tup (k.map kV)) ∧ kvs.length < sizeLine ∧
  (∀ u, valV kvs k = some u → Q u H3) ∧ (valV kvs k = none → Q z (upd H3 a (.dT (putK kvs k z))))
theorem pe_dsetd {o e f : Expr} {apos cpos : Pos} {td ty tx : TE} (hu : X.A.units + 1 < cLine) (ho : PE X o td) (he : PE X e ty) (hf : PE X f tx) (m : M2 X o "setdefault" apos e f cpos) : PE X (.Call (.Attribute o "setdefault" apos) [e, f] [] cpos) (tDSetd td ty tx) := by
  refine ⟨fun pins s σ H Q I h => ?_⟩
  refine wpAny_Call_method m.base m.few m.line PySem.F.plainAttrs_dict PySem.F.slot_dict_setdefault PySem.F.type_dict_setdefault (thn (ho.run pins s σ H _ I h) fun u s1 ⟨x, H1, I1, rx, a, ex, d, q1⟩ => ?_)
  subst ex
  obtain rfl : u = Value.ref a := rx
  obtain ⟨t1, t2, _⟩ := isD_at I1 d
  refine ⟨t1, t2, ?_⟩
  rw [m.trees]
  refine Calls.callWith_builtin rfl (Calls.evalArgs_plain (Calls.spliced_cons (thn (he.run pins s1 σ H1 _ I1 q1) fun iv s2 ⟨y, H2, I2, ry, q2⟩ =>
    Calls.spliced_cons (thn (hf.run pins s2 σ H2 _ I2 q2) fun fv s3 ⟨z, H3, I3, rz, kvs, k, b, e1, ey, eb, hl, g1, g2⟩ => Calls.spliced_nil ?_))))
  subst ey
  cases (show iv = Value.ref b from ry)
  exact d_setdT hu I3 e1 eb hl rz (fun u w' s4 hv rw' I4 => ⟨u, H3, I4, rw', g1 u hv⟩) fun hv s4 I4 => ⟨z, _, I4, rz, g2 hv⟩
end
end Z
/-! # a dict of its own whose values are lists of its own -/
namespace Z
open PySem L2
section
variable {K : PySem.W.Frag} {H Ho H' Ho' : Hp} {κ α γ : Type} [Py κ] [DecidableEq κ] [DKey κ] [Py α] {Φ : γ → Prop} {R : Grp} {v w u : V} {Q : VK} {σ : L2.St}
/-- an entry: the key, the list's place, what it holds -/
abbrev Ent (κ : Type) [Py κ] [DKey κ] := DKey.kt κ × (Addr × List V)
inductive EM (K : PySem.W.Frag) (Ho : Hp) : List (Ent κ) → Dc κ (List α) → Prop
  | nil : EM K Ho [] []
  | cons {e : Ent κ} {es : List (Ent κ)} {k : κ} {xs : List α} {m : Dc κ (List α)} (hk : e.1 = DKey.key k) (d : DL K Ho e.2.2 xs) (hn : valM m k = none) (h : EM K Ho es m) : EM K Ho (e :: es) ((k, xs) :: m)
def rowsE (es : List (Ent κ)) : Grp := es.map fun e => (e.2.1, HO.lst e.2.2)
def kvsE (es : List (Ent κ)) : List (DKey.kt κ × V) := es.map fun e => (e.1, V.ref e.2.1)
theorem EM.mo {es : List (Ent κ)} {m : Dc κ (List α)} (h : EM K Ho es m) (e : Same Ho Ho') : EM K Ho' es m := by
  induction h with
  | nil => exact .nil
  | cons hk d hn _ ih => exact .cons hk (DL.mo d e) hn ih
theorem EM.len {es : List (Ent κ)} {m : Dc κ (List α)} (h : EM K Ho es m) : es.length = m.length := by
  induction h with
  | nil => rfl
  | cons _ _ _ _ ih => simp [ih]
theorem valM_put' {k j : κ} {a : α} : ∀ {m : Dc κ α}, valM m j = none → j ≠ k → valM (m.map fun p => if p.1 = k then (p.1, a) else p) j = none
  | [], _, _ => rfl
  | (q, b) :: m, h, hne => by
    by_cases c : q = j
    · simp [valM, c] at h
    · have hm : valM m j = none := by simpa [valM, c] using h
      have ih := valM_put' (a := a) hm hne
      rw [List.map_cons]
      by_cases d : q = k
      · rw [if_pos d]
        simpa [valM, c] using ih
      · rw [if_neg d]
        simpa [valM, c] using ih
theorem map_none {k : κ} {a : α} : ∀ {m : Dc κ α}, valM m k = none → (m.map fun p => if p.1 = k then (p.1, a) else p) = m
  | [], _ => rfl
  | (q, b) :: m, h => by
    by_cases c : q = k
    · simp [valM, c] at h
    · have hm : valM m k = none := by simpa [valM, c] using h
      rw [List.map_cons, if_neg c, map_none hm]
theorem valM_app {k j : κ} {a : α} : ∀ {m : Dc κ α}, valM m j = none → j ≠ k → valM (m ++ [(k, a)]) j = none
  | [], _, hne => by
    have : ¬ k = j := fun e => hne e.symm
    simp [valM, this]
  | (q, b) :: m, h, hne => by
    by_cases c : q = j
    · simp [valM, c] at h
    · have hm : valM m j = none := by simpa [valM, c] using h
      have ih := valM_app (a := a) hm hne
      rw [List.cons_append]
      simpa [valM, c] using ih
/-- a new entry -/
theorem EM.snoc {es : List (Ent κ)} {m : Dc κ (List α)} (h : EM K Ho es m) {k : κ} (hn : valM m k = none) (q : Addr) : EM K Ho (es ++ [(DKey.key k, q, [])]) (m ++ [(k, [])]) := by
  induction h with
  | nil => exact .cons rfl .nil rfl .nil
  | @cons e es k1 xs m hk d h0 h ih =>
    have c : k1 ≠ k := fun c => by simp [valM, c] at hn
    have hm : valM m k = none := by simpa [valM, c] using hn
    exact .cons hk d (valM_app h0 c) (ih hm)
/-- all lists stand for good from now on -/
theorem EM.fr {es : List (Ent κ)} {m : Dc κ (List α)} (h : EM K Ho es m) : ∀ {R : Grp}, Zs (rowsE es ++ R) H Ho → ∃ Ho', Same Ho Ho' ∧ Zs R H Ho' ∧ DL K Ho' ((kvsE es).map (·.2)) (m.map (·.2)) := by
  induction h with
  | nil => exact fun z => ⟨Ho, Same.refl _, z, .nil⟩
  | @cons e es k xs m hk d hn h ih =>
    intro R z
    have z1 : Zs ((e.2.1, HO.lst e.2.2) :: (rowsE es ++ R)) H Ho := z
    have z2 : Zs (rowsE es ++ ((e.2.1, HO.lst e.2.2) :: R)) H Ho := z1.perm List.perm_middle.symm
    obtain ⟨Ho1, s1, z3, d1⟩ := ih z2
    obtain ⟨Ho2, s2, z4, d2⟩ := OL.fr (R := R) (OL.mk (p := e.2.1) (DL.mo d s1)) z3
    exact ⟨Ho2, s1.trans s2, z4, .cons d2 (DL.mo d1 s2)⟩
/-- the entry of a key -/
theorem EM.val {es : List (Ent κ)} {m : Dc κ (List α)} (h : EM K Ho es m) (k : κ) : (valM m k = none ∧ @valV _ DKey.dec (kvsE es) (DKey.key k) = none) ∨
    ∃ (i : Nat) (e : Ent κ) (xs : List α), es[i]? = some e ∧ valM m k = some xs ∧ @valV _ DKey.dec (kvsE es) (DKey.key k) = some (.ref e.2.1) ∧ DL K Ho e.2.2 xs ∧
      ∀ (w : V) (x : α), Z.D K Ho w x → EM K Ho (es.set i (e.1, e.2.1, e.2.2 ++ [w])) (putM m k (xs ++ [x])) := by
  induction h with
  | nil => exact .inl ⟨rfl, rfl⟩
  | @cons e es k1 xs m hk d hn h ih =>
    by_cases c : k1 = k
    · subst c
      refine .inr ⟨0, e, xs, rfl, by simp [valM], ?_, d, fun w x dw => ?_⟩
      · exact @valV_pos _ DKey.dec (e.1, V.ref e.2.1) (kvsE es) (DKey.key k1) hk
      · have hm : putM ((k1, xs) :: m) k1 (xs ++ [x]) = (k1, xs ++ [x]) :: m := by
          unfold putM
          rw [List.any_cons, decide_eq_true rfl, Bool.true_or, if_pos rfl, List.map_cons, if_pos rfl, map_none hn]
        rw [hm]
        exact .cons hk (DL.push d dw) hn h
    · have e1 : ∀ {m : Dc κ (List α)}, valM ((k1, xs) :: m) k = valM m k := by intro m; simp [valM, c]
      have e2 : @valV _ DKey.dec (kvsE (e :: es)) (DKey.key k) = @valV _ DKey.dec (kvsE es) (DKey.key k) := @valV_neg _ DKey.dec (e.1, V.ref e.2.1) (kvsE es) (DKey.key k) (fun z => c (DKey.inj (hk.symm.trans z)))
      rcases ih with ⟨a, b⟩ | ⟨i, e', ys, g1, g2, g3, g4, g5⟩
      · exact .inl ⟨e1.trans a, e2.trans b⟩
      · refine .inr ⟨i + 1, e', ys, g1, e1.trans g2, e2.trans g3, g4, fun w x dw => ?_⟩
        have hm : putM ((k1, xs) :: m) k (ys ++ [x]) = (k1, xs) :: putM m k (ys ++ [x]) := by
          have ha : (m.any fun p => decide (p.1 = k)) = true := by rw [valM_any, g2]; rfl
          unfold putM
          rw [List.any_cons, ha, Bool.or_true, if_pos rfl, if_pos rfl, List.map_cons, if_neg c]
        rw [hm]
        refine .cons hk d ?_ (g5 w x dw)
        have ha : (m.any fun p => decide (p.1 = k)) = true := by rw [valM_any, g2]; rfl
        unfold putM
        rw [if_pos ha]
        exact valM_put' hn c
/-- a dict of its own, its values lists of its own -/
def OT (K : PySem.W.Frag) (Ho : Hp) (v : V) (m : Dc κ (List α)) (g : Grp) : Prop := ∃ p es, v = .ref p ∧ EM K Ho es m ∧ g = (p, DKey.ho (κ := κ) (kvsE es)) :: rowsE es
theorem OT.mo {m : Dc κ (List α)} {g : Grp} (h : OT K Ho v m g) (e : Same Ho Ho') : OT K Ho' v m g := by
  obtain ⟨p, es, rfl, d, rfl⟩ := h
  exact ⟨p, es, rfl, d.mo e, rfl⟩
theorem EM.keys {es : List (Ent κ)} {m : Dc κ (List α)} (h : EM K Ho es m) : (kvsE es).map (·.1) = m.map fun p => DKey.key p.1 := by
  induction h with
  | nil => rfl
  | cons hk _ _ _ ih => unfold kvsE at ih ⊢; rw [List.map_cons, List.map_cons, List.map_cons, ih, hk]
/-- its lists stand for good from now on -/
theorem OT.fr {m : Dc κ (List α)} {g : Grp} (h : OT K Ho v m g) (z : Zs (g ++ R) H Ho) : ∃ Ho' g', Same Ho Ho' ∧ Zs (g' ++ R) H Ho' ∧ OD K Ho' v m g' := by
  obtain ⟨p, es, rfl, d, rfl⟩ := h
  have z1 : Zs ((p, DKey.ho (κ := κ) (kvsE es)) :: (rowsE es ++ R)) H Ho := z
  obtain ⟨Ho', s, z2, dl⟩ := d.fr (z1.perm List.perm_middle.symm)
  exact ⟨Ho', [(p, DKey.ho (κ := κ) (kvsE es))], s, z2, p, kvsE es, rfl, ⟨d.keys, dl⟩, rfl⟩
/-- where the list of a key stands -/
def OTat (K : PySem.W.Frag) (Ho : Hp) (v : V) (m : Dc κ (List α)) (k : κ) (u : V) (g : Grp) : Prop := ∃ p es, v = .ref p ∧ EM K Ho es m ∧ g = (p, DKey.ho (κ := κ) (kvsE es)) :: rowsE es ∧ @valV _ DKey.dec (kvsE es) (DKey.key k) = some u
theorem OTat.mo {m : Dc κ (List α)} {k : κ} {g : Grp} (h : OTat K Ho v m k u g) (e : Same Ho Ho') : OTat K Ho' v m k u g := by
  obtain ⟨p, es, rfl, d, rfl, hv⟩ := h
  exact ⟨p, es, rfl, d.mo e, rfl, hv⟩
theorem EM.at {es : List (Ent κ)} {m : Dc κ (List α)} {p : Addr} {k : κ} (h : EM K Ho es m) (hs : (valM m k).isSome = true) : ∃ e : Ent κ, @valV _ DKey.dec (kvsE es) (DKey.key k) = some (.ref e.2.1) ∧ OTat K Ho (.ref p) m k (.ref e.2.1) ((p, DKey.ho (κ := κ) (kvsE es)) :: rowsE es) := by
  rcases h.val k with ⟨a, _⟩ | ⟨i, e, xs, g1, g2, g3, g4, g5⟩
  · rw [a] at hs; cases hs
  · exact ⟨e, g3, p, es, rfl, h, rfl, g3⟩
theorem row_at {es : List (Ent κ)} {i : Nat} {e : Ent κ} {p : Addr} (g1 : es[i]? = some e) : (((p, DKey.ho (κ := κ) (kvsE es)) :: rowsE es) ++ R)[i + 1]? = some (e.2.1, HO.lst e.2.2) := by
  have hi := (List.getElem?_eq_some_iff.mp g1).1
  show (rowsE es ++ R)[i]? = _
  rw [List.getElem?_append_left (by unfold rowsE; rw [List.length_map]; exact hi)]
  unfold rowsE
  rw [List.getElem?_map, g1]
  rfl
theorem g_tyAt {P : Prop} {m : Dc κ (List α)} {k : κ} {g : Grp} (z : Zs (g ++ R) H Ho) (o : OTat K Ho v m k u g) (kk : P) : tyV K "list" u H ∧ P := by
  obtain ⟨p, es, rfl, h, rfl, hv⟩ := o
  rcases h.val k with ⟨_, c⟩ | ⟨i, e, xs, g1, g2, g3, g4, g5⟩
  · rw [c] at hv; cases hv
  · have : u = .ref e.2.1 := Option.some.inj (hv.symm.trans g3)
    subst this
    exact ⟨.inl ⟨rfl, _, SqL.of (z.rt _ (List.mem_of_getElem? (row_at g1))).1⟩, kk⟩
theorem g_isdT {m : Dc κ (List α)} {g : Grp} {P : Addr → Prop} (z : Zs (g ++ R) H Ho) (o : OT K Ho v m g) (kk : ∀ a, v = .ref a → P a) : ∃ a, v = .ref a ∧ IsD H a ∧ P a := by
  obtain ⟨p, es, rfl, h, rfl⟩ := o
  exact ⟨p, rfl, DKey.isd (z.rt _ List.mem_cons_self).1, kk p rfl⟩
theorem g_appAt {m : Dc κ (List α)} {k : κ} {x : α} {g : Grp} (z : Zs (g ++ R) H Ho) (o : OTat K Ho v m k u g) (dx : Z.D K Ho w x) (hl : ∀ xs, valM m k = some xs → xs.length < sizeLine) (kk : ∀ m' g' H', (∀ xs, valM m k = some xs → m' = putM m k (xs ++ [x])) → Zs (g' ++ R) H' Ho → OT K Ho v m' g' → Q .non H') : rAppend u [w] H Q := by
  obtain ⟨p, es, rfl, h, rfl, hv⟩ := o
  rcases h.val k with ⟨_, c⟩ | ⟨i, e, xs, g1, g2, g3, g4, g5⟩
  · rw [c] at hv; cases hv
  have hu : u = .ref e.2.1 := Option.some.inj (hv.symm.trans g3)
  subst hu
  have hr : (((p, DKey.ho (κ := κ) (kvsE es)) :: rowsE es) ++ R)[i + 1]? = some (e.2.1, HO.lst e.2.2) := by
    have hi := (List.getElem?_eq_some_iff.mp g1).1
    show (rowsE es ++ R)[i]? = _
    rw [List.getElem?_append_left (by unfold rowsE; rw [List.length_map]; exact hi)]
    unfold rowsE
    rw [List.getElem?_map, g1]
    rfl
  refine ⟨e.2.1, e.2.2, w, rfl, rfl, (z.rt _ (List.mem_of_getElem? hr)).1, by rw [DL.len g4]; exact hl xs g2, ?_⟩
  have z2 := z.putI (o' := HO.lst (e.2.2 ++ [w])) hr
  refine kk (putM m k (xs ++ [x])) (((p, DKey.ho (κ := κ) (kvsE (es.set i (e.1, e.2.1, e.2.2 ++ [w]))))) :: rowsE (es.set i (e.1, e.2.1, e.2.2 ++ [w]))) _ (fun ys hy => by rw [g2] at hy; cases hy; rfl) ?_ ⟨p, _, rfl, g5 w x dx, rfl⟩
  have e1 : kvsE (es.set i (e.1, e.2.1, e.2.2 ++ [w])) = kvsE es := by
    unfold kvsE
    rw [List.map_set]
    apply List.ext_getElem?
    intro j
    rw [List.getElem?_set]
    split
    · rename_i c
      subst c
      split
      · rw [List.getElem?_map, g1]; rfl
      · rename_i c
        rw [List.getElem?_eq_none (by omega)]
    · rfl
  have e2 : rowsE (es.set i (e.1, e.2.1, e.2.2 ++ [w])) = (rowsE es).set i (e.2.1, HO.lst (e.2.2 ++ [w])) := by
    unfold rowsE
    rw [List.map_set]
  rw [e1, e2]
  have hi := (List.getElem?_eq_some_iff.mp g1).1
  have e3 : (((p, DKey.ho (κ := κ) (kvsE es)) :: rowsE es) ++ R).set (i + 1) (e.2.1, HO.lst (e.2.2 ++ [w])) = ((p, DKey.ho (κ := κ) (kvsE es)) :: (rowsE es).set i (e.2.1, HO.lst (e.2.2 ++ [w]))) ++ R := by
    show _ :: (rowsE es ++ R).set i _ = _ :: ((rowsE es).set i _ ++ R)
    rw [List.set_append_left _ _ (by unfold rowsE; rw [List.length_map]; exact hi)]
  rw [← e3]
  exact z2
/-- d.setdefault(k, []) -/
def setd (m : Dc κ (List α)) (k : κ) : Dc κ (List α) := if (valM m k).isSome = true then m else m ++ [(k, [])]
theorem valM_new {k : κ} {a : List α} : ∀ {m : Dc κ (List α)}, valM m k = none → valM (m ++ [(k, a)]) k = some a
  | [], _ => by simp [valM]
  | (q, b) :: m, h => by
    by_cases c : q = k
    · simp [valM, c] at h
    · have hm : valM m k = none := by simpa [valM, c] using h
      have ih := valM_new (a := a) hm
      rw [List.cons_append]
      simpa [valM, c] using ih
theorem dkT {k : Int × Int} (d : Z.D K Ho w k) : ∃ b, w = .ref b ∧ Ho b = some (.tup ((DKey.key k : List L2.Key).map kV)) := by
  cases d with
  | tup hs ha =>
    cases ha with
    | cons h1 h2 =>
      cases h2 with
      | cons h3 h4 =>
        cases h4
        rw [d_int h1, d_int h3] at hs
        exact ⟨_, rfl, hs⟩
end
section
variable {K : PySem.W.Frag} {H Ho : Hp} {α : Type} [Py α] {R : Grp} {v w : V} {Q : VK}
def GSetd (Q : VK) (a : Addr) (y z : V) (H : Hp) : Prop := ∃ kvs k b, H a = some (.dT kvs) ∧ y = .ref b ∧ H b = some (.tup (k.map kV)) ∧ kvs.length < sizeLine ∧
  (∀ u, valV kvs k = some u → Q u H) ∧ (valV kvs k = none → Q z (upd H a (.dT (putK kvs k z))))
theorem g_setd {m : Dc (Int × Int) (List α)} {k : Int × Int} {g : Grp} {a q : Addr} (ea : v = .ref a) (z : Zs ([(q, HO.lst [])] ++ (g ++ R)) H Ho) (o : OT K Ho v m g) (dk : Z.D K Ho w k) (hl : m.length < sizeLine)
    (kk : ∀ u g' H', Zs (g' ++ R) H' Ho → OTat K Ho v (setd m k) k u g' → Q u H') : GSetd Q a w (.ref q) H := by
  obtain ⟨p, es, e1, h, rfl⟩ := o
  rw [ea] at e1
  cases e1
  subst ea
  obtain ⟨b, rfl, hb⟩ := dkT dk
  have z0 : Zs ((q, HO.lst []) :: (a, HO.dT (kvsE es)) :: (rowsE es ++ R)) H Ho := z
  refine ⟨kvsE es, DKey.key k, b, (z0.rt _ (List.mem_cons_of_mem _ List.mem_cons_self)).1, rfl, z.le _ _ hb, ?_, fun u hu => ?_, fun hn => ?_⟩
  · unfold kvsE; rw [List.length_map, h.len]; exact hl
  · have hs : (valM m k).isSome = true := by
      rcases h.val k with ⟨_, c⟩ | ⟨i, e, xs, _, c, _⟩
      · have : (none : Option V) = some u := c.symm.trans hu
        cases this
      · rw [c]; rfl
    have es' : setd m k = m := if_pos hs
    obtain ⟨e, he, ha⟩ := EM.at (p := a) h hs
    have hue : u = .ref e.2.1 := Option.some.inj (hu.symm.trans he)
    rw [hue]
    exact kk _ _ _ (Zs.tail z0) (by rw [es']; exact ha)
  · have hs : valM m k = none := by
      rcases h.val k with ⟨c, _⟩ | ⟨i, e, xs, _, _, c, _⟩
      · exact c
      · have : (some (V.ref e.2.1) : Option V) = none := c.symm.trans hn
        cases this
    have es' : setd m k = m ++ [(k, [])] := if_neg (by rw [hs]; exact Bool.false_ne_true)
    have h' := h.snoc hs q
    have hp : putK (κ := List L2.Key) (kvsE es) (DKey.key k : List L2.Key) (.ref q) = kvsE (es ++ [((DKey.key k : List L2.Key), q, [])]) := by
      rw [putK_new _ hn]
      unfold kvsE
      rw [List.map_append]
      rfl
    rw [hp]
    obtain ⟨e, he, ha⟩ := EM.at (p := a) (k := k) h' (by rw [valM_new hs]; rfl)
    have z1 : Zs ((a, HO.dT (kvsE es)) :: ((rowsE es ++ [(q, HO.lst [])]) ++ R)) H Ho := z0.perm (by
      refine (List.Perm.swap _ _ _).trans (List.Perm.cons _ ?_)
      rw [List.append_assoc]
      exact List.perm_middle.symm)
    have z2 := z1.put (o' := HO.dT (kvsE (es ++ [((DKey.key k : List L2.Key), q, [])])))
    have hr : rowsE (es ++ [((DKey.key k : List L2.Key), q, [])]) = rowsE es ++ [(q, HO.lst [])] := by unfold rowsE; rw [List.map_append]; rfl
    have hq : e.2.1 = q := by
      have hv : valV (κ := List L2.Key) (kvsE (es ++ [((DKey.key k : List L2.Key), q, [])])) (DKey.key k : List L2.Key) = some (.ref q) := by
        rw [← hp, valV_put, if_pos rfl]
      have := Option.some.inj (he.symm.trans hv)
      cases this; rfl
    rw [hq] at ha
    refine kk _ _ _ ?_ (by rw [es']; exact ha)
    rw [hr]
    exact z2
variable {td ty tx : TE} {σ : L2.St} {γ : Type} {Φ : γ → Prop}
theorem y_dsetd (k : td σ H fun x H1 => ∃ a, x = .ref a ∧ IsD H1 a ∧ ty σ H1 fun y H2 => tx σ H2 fun z H3 => GSetd Q a y z H3) : tDSetd td ty tx σ H Q := k
theorem g_dnewTo (z : Zs R H Ho) (k : ∀ H' v g, Zs (g ++ R) H' Ho → OT K Ho v ([] : Dc (Int × Int) (List α)) g → Q v H') : tDNewT σ H Q := fun p hp => k _ _ _ (z.root hp) ⟨p, [], rfl, .nil, rfl⟩
theorem t_o {G : V → Prop} {e : Dc (Int × Int) (List α)} {g : Grp} {f : Dc (Int × Int) (List α) → W γ} (hw : (W.bind (W.ret e) f).run Φ) (z : Zs (g ++ R) H Ho) (o : OT K Ho v e g) (k : ∀ x v g, Zs (g ++ R) H Ho → OT K Ho v x g → (f x).run Φ → G v) : LetV G v := k e v g z o hw
/-- d.setdefault(k, []).append(x) -/
def sdApp {κ : Type} [DecidableEq κ] (m : Dc κ (List α)) (k : κ) (x : α) : W (Dc κ (List α)) := W.guard (m.length < sizeLine ∧ ((valM m k).getD []).length < sizeLine) (W.ret (putM (setd m k) k ((valM m k).getD [] ++ [x])))
end
end Z
/-! # what is one's own is lent for a call; `is` of bools; count; isinstance of any value -/
namespace Z
open PySem PySem.Spec PyProof.Rows L2
section
variable {K : PySem.W.Frag} {H Ho H' Ho' : Hp} {κ α γ : Type} [Py κ] [DecidableEq κ] [DKey κ] [Py α] {Φ : γ → Prop} {R : Grp} {v w u : V} {Q : VK} {σ : L2.St}
theorem t_fr {P : Prop} {m : Dc κ (List α)} {g : Grp} (o : OT K Ho v m g) (z : Zs (g ++ R) H Ho) (k : ∀ Ho' g', Same Ho Ho' → Zs (g' ++ R) H Ho' → OD K Ho' v m g' → P) : P := by
  obtain ⟨Ho', g', s, z', o'⟩ := o.fr z
  exact k Ho' g' s z' o'
theorem valM_setd {m : Dc κ (List α)} {k : κ} : valM (setd m k) k = some ((valM m k).getD []) := by
  unfold setd
  cases h : valM m k with
  | none => rw [if_neg (by simp)]; exact valM_new h
  | some xs => rw [if_pos (by simp), h]; rfl
theorem sd_h1 {m : Dc κ (List α)} {k : κ} {x : α} {f : Dc κ (List α) → W γ} (hw : (W.bind (sdApp m k x) f).run Φ) : m.length < sizeLine := hw.1.1
theorem sd_h2 {m : Dc κ (List α)} {k : κ} {x : α} {f : Dc κ (List α) → W γ} (hw : (W.bind (sdApp m k x) f).run Φ) (xs : List α) (h : valM (setd m k) k = some xs) : xs.length < sizeLine := by
  rw [valM_setd] at h
  cases h
  exact hw.1.2
theorem sd_run {m m' : Dc κ (List α)} {k : κ} {x : α} {g : Grp} {f : Dc κ (List α) → W γ} (hw : (W.bind (sdApp m k x) f).run Φ) (hm : ∀ xs, valM (setd m k) k = some xs → m' = putM (setd m k) k (xs ++ [x])) (o : OT K Ho v m' g) : ∃ q, OT K Ho v q g ∧ (f q).run Φ := by
  rw [hm _ valM_setd] at o
  exact ⟨_, o, hw.2⟩
end
section
variable {X : Cx}
theorem bl_beq (a b : Bool) : (Value.bool a == Value.bool b) = decide (a = b) := by
  by_cases e : a = b
  · subst e
    exact (beq_self_eq_true (Value.bool a)).trans (decide_eq_true (p := a = a) rfl).symm
  · exact (beq_eq_false_iff_ne.mpr fun z => e (Value.bool.inj z)).trans (decide_eq_false e).symm
def rNotB : R2 := fun x y H Q => ∃ a b, x = .bl a ∧ y = .bl b ∧ Q (.bl (!decide (a = b))) H
theorem op_notB : OpR X (compareOp .IsNot) rNotB := by
  intro pins s σ H x y v u Q I rx ry h
  obtain ⟨a, b, rfl, rfl, q⟩ := h
  cases (show v = Value.bool a from rx)
  cases (show u = Value.bool b from ry)
  exact wpAny_isNot_plain rfl (fin_bl I q (congrArg not (bl_beq a b).symm))
end
section
variable {K : PySem.W.Frag} {H Ho : Hp} {R : Grp} {v w : V} {Q : VK} {α : Type} [Py α]
theorem y_notB {a b : Bool} (k : Q (.bl (!decide (a = b))) H) : rNotB (.bl a) (.bl b) H Q := ⟨a, b, rfl, rfl, k⟩
theorem zmt_cnt {X : Cx} (hK : X.K = K) : MtR X "list.count" (rCntI K) := hK ▸ mt_lcount
def cntZ (xs : List Int) (k : Int) : Int := ((xs.count k : Nat) : Int)
theorem y_cnt {xs : List Int} {k : Int} (d : LV K R Ho v xs) (z : Zs R H Ho) (kk : Q (.int (cntZ xs k)) H) : rCntI K v [.int k] H Q := by
  obtain ⟨p, vs, rfl, d, s⟩ := d.rd z
  rw [dl_ints d] at s
  exact ⟨p, xs, k, rfl, rfl, s, kk⟩
end
/-! methods inside a comprehension: the written part is named outside -/
section
variable {X : Cx} {K : PySem.W.Frag} {o e : Expr} {es : List Expr} {to : TE} {t : TA} {name : Str} {apos cpos : Pos} {T id : String} {r : V → List V → Hp → VK → Prop}
theorem zpe_bm (hK : X.K = K) (pa : PlainAttrs T) (slot : Slot T name id) (hty : typeOf (.builtin id) = pure (.type "method_descriptor")) (hm : MtR X id r) (ho : PE X o to) (ha : PA X (e :: es) t)
    (hbase : attributeBase o name X.env (eval o X.env) = eval o X.env := by rfl)
    (hfew : ((backTo cpos (starEach (e :: es) X.env)).all (fun x => !x.1) && (backToKw cpos (keywordEach [] X.env)).all (fun x => x.1.isSome)
      && decide ((e :: es).length + ([] : List Keyword).length + (if ([] : List Keyword).isEmpty then 0 else 1) < 30)) = true := by rfl)
    (hline : (apos.endLine == cpos.line) = true := by rfl) (hs : starEach (e :: es) X.env = (false, eval e X.env) :: starEach es X.env := by rfl) (hplain : (backTo cpos (starEach es X.env)).any (·.1) = false := by rfl) :
    PE X (.Call (.Attribute o name apos) (e :: es) [] cpos) (tBM K T r to t) := hK ▸ pe_bm pa slot hty hm ho ha hbase hfew hline hs hplain
end
end Z
/-! # texts -/
namespace Z
open PySem PySem.Spec PyProof.Rows L2
end Z
/-! # a tuple of two lists of one's own -/
namespace Z
open PySem L2
section
variable {K : PySem.W.Frag} {H Ho H' Ho' : Hp} {α β γ : Type} [Py α] [Py β] {Φ : γ → Prop} {R g0 g1 g : Grp} {v w u v0 v1 : V} {Q : VK} {σ : L2.St} {xs : List α} {ys : List β} {x : List α × List β}
def TupAt (Ho : Hp) (v v0 v1 : V) : Prop := ∃ p, v = .ref p ∧ Ho p = some (.tup [v0, v1])
theorem TupAt.mo (h : TupAt Ho v v0 v1) (e : Same Ho Ho') : TupAt Ho' v v0 v1 := by
  obtain ⟨p, rfl, hp⟩ := h
  exact ⟨p, rfl, e _ _ hp⟩
def OP (K : PySem.W.Frag) (Ho : Hp) (v : V) (x : List α × List β) (g : Grp) : Prop := ∃ v0 v1 g0 g1, TupAt Ho v v0 v1 ∧ OL K Ho v0 x.1 g0 ∧ OL K Ho v1 x.2 g1 ∧ g = g0 ++ g1
theorem OP.mo (h : OP K Ho v x g) (e : Same Ho Ho') : OP K Ho' v x g := by
  obtain ⟨v0, v1, g0, g1, t, o0, o1, rfl⟩ := h
  exact ⟨v0, v1, g0, g1, t.mo e, o0.mo e, o1.mo e, rfl⟩
theorem p_open {P : Prop} (o : OP K Ho v x g) (z : Zs (g ++ R) H Ho) (k : ∀ v0 v1 g0 g1, TupAt Ho v v0 v1 → OL K Ho v0 x.1 g0 → OL K Ho v1 x.2 g1 → Zs (g0 ++ (g1 ++ R)) H Ho → P) : P := by
  obtain ⟨v0, v1, g0, g1, t, o0, o1, rfl⟩ := o
  rw [List.append_assoc] at z
  exact k v0 v1 g0 g1 t o0 o1 z
theorem p_close {P : Prop} (t : TupAt Ho v v0 v1) (o0 : OL K Ho v0 xs g0) (o1 : OL K Ho v1 ys g1) (z : Zs (g0 ++ (g1 ++ R)) H Ho) (k : ∀ g, OP K Ho v (xs, ys) g → Zs (g ++ R) H Ho → P) : P :=
  k (g0 ++ g1) ⟨v0, v1, g0, g1, t, o0, o1, rfl⟩ (by rw [List.append_assoc]; exact z)
theorem p_reopen {P : Prop} (t : TupAt Ho v v0 v1) (o : OP K Ho v x g) (z : Zs (g ++ R) H Ho) (k : ∀ g0 g1, OL K Ho v0 x.1 g0 → OL K Ho v1 x.2 g1 → Zs (g0 ++ (g1 ++ R)) H Ho → P) : P := by
  obtain ⟨w0, w1, g0, g1, t2, o0, o1, rfl⟩ := o
  rw [List.append_assoc] at z
  obtain ⟨p, rfl, hp⟩ := t
  obtain ⟨q, hq, hq2⟩ := t2
  cases hq
  rw [hp] at hq2
  cases hq2
  exact k g0 g1 o0 o1 z
theorem p_tupk (z : Zs R H Ho) (k : ∀ p H' Ho', Same Ho Ho' → Zs R H' Ho' → TupAt Ho' (.ref p) v0 v1 → Q (.ref p) H') : TupK Q [v0, v1] H :=
  ⟨by show 2 ≤ sizeLine; decide, fun p hp => k p _ _ (Same.new (z.free hp)) (z.alloc hp) ⟨p, rfl, upd_same⟩⟩
theorem TupAt.d (t : TupAt Ho v v0 v1) (d0 : Z.D K Ho v0 xs) (d1 : Z.D K Ho v1 ys) : Z.D K Ho v (xs, ys) := by
  obtain ⟨p, rfl, hp⟩ := t
  exact .tup hp (.cons d0 (.cons d1 .nil))
theorem TupAt.rd (t : TupAt Ho v v0 v1) (l0 : LV K R Ho v0 xs) (l1 : LV K R Ho v1 ys) (z : Zs R H Ho) : Z.D K H v (xs, ys) := by
  obtain ⟨p, rfl, hp⟩ := t
  exact .tup (z.le _ _ hp) (.cons (l0.dp z) (.cons (l1.dp z) .nil))
theorem p_ix0 (t : TupAt Ho v v0 v1) (z : Zs R H Ho) (k : Q v0 H) : rIxT K v (.int 0) H Q := by
  obtain ⟨p, rfl, hp⟩ := t
  exact ⟨p, [v0, v1], 0, v0, rfl, rfl, SqT.of (z.le _ _ hp), rfl, k⟩
theorem p_ix1 (t : TupAt Ho v v0 v1) (z : Zs R H Ho) (k : Q v1 H) : rIxT K v (.int 1) H Q := by
  obtain ⟨p, rfl, hp⟩ := t
  exact ⟨p, [v0, v1], 1, v1, rfl, rfl, SqT.of (z.le _ _ hp), rfl, k⟩
theorem p_gt2 {i j : Nat} {QS : L2.St → Hp → Prop} (σ' : V → V → L2.St) (hσ : ∀ v u, (σ.set i (some v)).set j (some u) = σ' v u) (t : TupAt Ho v v0 v1) (z : Zs R H Ho) (k : QS (σ' v0 v1) H) : gTup K 2 (gCons (gName i) (gCons (gName j) gNil)) v σ H QS := by
  obtain ⟨p, rfl, hp⟩ := t
  exact ⟨_, _, rfl, SqT.of (z.le _ _ hp), rfl, _, _, rfl, _, _, rfl, rfl, by rw [hσ]; exact k⟩
theorem p_o {G : V → Prop} {e : List α × List β} {f : List α × List β → W γ} (hw : (W.bind (W.ret e) f).run Φ) (z : Zs (g ++ R) H Ho) (o : OP K Ho v e g) (k : ∀ x v g, Zs (g ++ R) H Ho → OP K Ho v x g → (f x).run Φ → G v) : LetV G v := k e v g z o hw
end
/-! dicts whose keys are four ints -/
instance : DKey (P4 Int Int Int Int) where
  kt := List L2.Key
  dec := inferInstance
  key p := [.inl p.a, .inl p.b, .inl p.c, .inl p.d]
  inj h := by
    rename_i x y
    obtain ⟨a1, a2, a3, a4⟩ := x
    obtain ⟨b1, b2, b3, b4⟩ := y
    simp only [List.cons.injEq, Sum.inl.injEq, and_true] at h
    rw [h.1, h.2.1, h.2.2.1, h.2.2.2]
  ho := .dT
  get e s d := by
    cases d with
    | tup hs ha =>
      cases ha with
      | cons h1 ha => cases ha with
        | cons h2 ha => cases ha with
          | cons h3 ha => cases ha with
            | cons h4 ha =>
              cases ha
              rw [d_int h1, d_int h2, d_int h3, d_int h4] at hs
              exact DGet.t e (s _ _ hs)
  put e s d h := by
    cases d with
    | tup hs ha =>
      cases ha with
      | cons h1 ha => cases ha with
        | cons h2 ha => cases ha with
          | cons h3 ha => cases ha with
            | cons h4 ha =>
              cases ha
              rw [d_int h1, d_int h2, d_int h3, d_int h4] at hs
              exact DPut.t e (s _ _ hs) h
  isd e := .inr ⟨_, .inl e⟩
end Z
/-! # texts, sign by sign; split, int -/
namespace Z
open PySem PySem.Spec PyProof.Rows L2
end Z
/-! # a list of two is taken apart -/
namespace Z
open PySem PySem.Spec PyProof.Rows L2
section
variable {α γ : Type} [Py α] {K : PySem.W.Frag} {rs : List (Addr × HO)} {H Ho : Hp} {σ : L2.St} {Φ : γ → Prop}
def two {α : Type} : List α → Option (α × α)
  | [a, b] => some (a, b)
  | _ => none
end
end Z
/-! # data of any kind: items, lengths, kinds -/
namespace Z
open PySem PySem.Spec PyProof.Rows L2
section
variable {α β γ : Type} [Py α] {K : PySem.W.Frag} {rs : List (Addr × HO)} {H Ho : Hp} {σ : L2.St} {Φ : γ → Prop} {Q : VK} {v : V}
/-! isinstance(x, (T1, T2)) -/
/-! data of a kind that is wanted -/
class Fr (α : Type) [Py α] where
  fr : PyData → Option α
  ok : ∀ d a, fr d = some a → d = toPy a
instance : Fr Int := ⟨fun d => match d with | .int i => some i | _ => none, fun d a h => by cases d <;> first | (cases h; rfl) | (cases h)⟩
instance : Fr Str := ⟨fun d => match d with | .str i => some i | _ => none, fun d a h => by cases d <;> first | (cases h; rfl) | (cases h)⟩
instance : Fr Bool := ⟨fun d => match d with | .bool i => some i | _ => none, fun d a h => by cases d <;> first | (cases h; rfl) | (cases h)⟩
def frAll (β : Type) [Py β] [Fr β] : List PyData → Option (List β)
  | [] => some []
  | d :: ds => match (Fr.fr d : Option β), frAll β ds with
    | some a, some as => some (a :: as)
    | _, _ => none
theorem frAll_ok {β : Type} [Py β] [Fr β] : ∀ {ds : List PyData} {as : List β}, frAll β ds = some as → ds = as.map Py.toPy
  | [], as, h => by cases h; rfl
  | d :: ds, as, h => by
    unfold frAll at h
    split at h
    · rename_i a as' e1 e2
      cases h
      rw [List.map_cons, ← frAll_ok e2, Fr.ok d a e1]
    · cases h
instance {β : Type} [Py β] [Fr β] : Fr (List β) := ⟨fun d => match d with | .list xs => frAll β xs | _ => none, fun d a h => by
  cases d <;> first | (cases h; done) | skip
  rename_i xs
  show PyData.list xs = .list (a.map Py.toPy)
  rw [frAll_ok (show frAll β xs = some a from h)]⟩
instance {β β' : Type} [Py β] [Fr β] [Py β'] [Fr β'] : Fr (β × β') := ⟨fun d => match d with
  | .tuple [x, y] => match (Fr.fr x : Option β), (Fr.fr y : Option β') with
    | some a, some b => some (a, b)
    | _, _ => none
  | _ => none, fun d p h => by
  split at h
  · rename_i x y
    split at h
    · rename_i a b e1 e2
      cases h
      rw [Fr.ok _ _ e1, Fr.ok _ _ e2]; rfl
    · cases h
  · cases h⟩
instance {β β' β'' : Type} [Py β] [Fr β] [Py β'] [Fr β'] [Py β''] [Fr β''] : Fr (P3 β β' β'') := ⟨fun d => match d with
  | .tuple [x, y, z] => match (Fr.fr x : Option β), (Fr.fr y : Option β'), (Fr.fr z : Option β'') with
    | some a, some b, some c => some ⟨a, b, c⟩
    | _, _, _ => none
  | _ => none, fun d p h => by
  split at h
  · rename_i x y z
    split at h
    · rename_i a b c e1 e2 e3
      cases h
      rw [Fr.ok _ _ e1, Fr.ok _ _ e2, Fr.ok _ _ e3]; rfl
    · cases h
  · cases h⟩
instance {β β' β'' γ' : Type} [Py β] [Fr β] [Py β'] [Fr β'] [Py β''] [Fr β''] [Py γ'] [Fr γ'] : Fr (P4 β β' β'' γ') := ⟨fun d => match d with
  | .tuple [x, y, z, u] => match (Fr.fr x : Option β), (Fr.fr y : Option β'), (Fr.fr z : Option β''), (Fr.fr u : Option γ') with
    | some a, some b, some c, some e => some ⟨a, b, c, e⟩
    | _, _, _, _ => none
  | _ => none, fun d p h => by
  split at h
  · rename_i x y z u
    split at h
    · rename_i a b c e e1 e2 e3 e4
      cases h
      rw [Fr.ok _ _ e1, Fr.ok _ _ e2, Fr.ok _ _ e3, Fr.ok _ _ e4]; rfl
    · cases h
  · cases h⟩
end
/-! xs.extend(ys), ys as it stands -/
end Z
/-! # a list that is read, whatever keeps it: the script -/
namespace Z
open PySem PySem.Spec PyProof.Rows L2
def LVg {α : Type} [Py α] (K : PySem.W.Frag) (rs : List (Addr × HO)) (Ho : Hp) (v : V) (xs : List α) : Prop :=
  ∃ p vs, v = .ref p ∧ DL K Ho vs xs ∧ (SqL K Ho p vs ∨ (p, HO.lst vs) ∈ rs)
section
variable {K : PySem.W.Frag} {H Ho H' Ho' : Hp} {rs rs' r0 : Grp} {α γ : Type} [Py α] {v : V} {xs : List α} {Q : VK} {Φ : γ → Prop} {R : It → Hp → Prop}
theorem LVg.mo (h : LVg K rs Ho v xs) (e : Same Ho Ho') : LVg K rs Ho' v xs := by
  obtain ⟨p, vs, rfl, d, s⟩ := h
  exact ⟨p, vs, rfl, DL.mo d e, s.imp (fun s => e.seq s) id⟩
theorem LVg.sub (h : LVg K rs Ho v xs) (e : ∀ r ∈ rs, r ∈ rs') : LVg K rs' Ho v xs := by
  obtain ⟨p, vs, rfl, d, s⟩ := h
  exact ⟨p, vs, rfl, d, s.imp id (e _)⟩
theorem LVg.of (h : LV K rs Ho v xs) : LVg K rs Ho v xs := by
  obtain ⟨p, vs, rfl, d, s⟩ := h
  exact ⟨p, vs, rfl, d, s.imp (fun s => SqL.of s) id⟩
theorem LVg.rd (h : LVg K rs Ho v xs) (z : Zs rs H Ho) : ∃ p vs, v = .ref p ∧ DL K Ho vs xs ∧ SqL K H p vs := by
  obtain ⟨p, vs, rfl, d, s⟩ := h
  refine ⟨p, vs, rfl, d, ?_⟩
  rcases s with s | s
  · exact z.le.seq s
  · exact SqL.of (z.rt _ s).1
theorem y_listG (d : LVg K rs Ho v xs) (z : Zs rs H Ho) (k : ∀ H' p ws, Zs ((p, .lst ws) :: rs) H' Ho → DL K Ho ws xs → Q (.ref p) H') : rListZ K [v] H Q := by
  obtain ⟨p, vs, rfl, d, s⟩ := LVg.rd d z
  exact ⟨p, vs, rfl, .inl s, fun q hq => k _ q _ (z.root hq) d⟩
theorem src_stayG {q : Addr} {ys : List V} {rs' : List (Addr × HO)} {H Ho' : Hp} (s : SqL K Ho q ys ∨ (q, HO.lst ys) ∈ rs) (e : Same Ho Ho') (z : Zs rs' H Ho') (sub : ∀ r ∈ rs, r ∈ rs') : SqL K H q ys := by
  rcases s with s | s
  · exact z.le.seq (e.seq s)
  · exact SqL.of (z.rt _ (sub _ s)).1
theorem trn_listG {q : Addr} (h : LVg K r0 Ho v xs) (hv : v = .ref q) : Trn K r0 (Itl K q) xs Ho := by
  intro i rs' H' Ho' e z sub
  obtain ⟨q', ys, rfl, d, s⟩ := h
  cases hv
  have sq : SqL K H' q ys := src_stayG s e z sub
  refine ⟨fun a ha => ?_, fun hl => ⟨ys, sq, by rw [d.len]; exact hl⟩⟩
  obtain ⟨w, ew, dw⟩ := d.get ha
  refine ⟨⟨ys, w, sq, ew⟩, fun x H'' y => ?_⟩
  obtain ⟨rfl, y⟩ := y
  have ex : x = w := Option.some.inj ((y _ sq).symm.trans ew)
  subst ex
  exact ⟨Ho', Same.refl _, fun _ z => z, D.mo dw e⟩
theorem k_srcLG (d : LVg K r0 Ho v xs) (hs : ∀ r ∈ r0, r ∈ rs) (z : Zs rs H Ho) (k : ∀ J, Trn K r0 J xs Ho → R J H) : SrcL K R v H := by
  obtain ⟨q, ys, rfl, dd, s⟩ := id d
  exact ⟨q, rfl, ⟨ys, src_stayG s (Same.refl _) z hs⟩, k _ (trn_listG d rfl)⟩
end
end Z
/-! # objects: their fields, their methods, how they are made -/
namespace Z
open PySem PySem.Spec PyProof.Rows L2
/-! fields by their places -/
section
variable {β γ : Type} {R : Grp} {H Ho : Hp} {Φ : γ → Prop}
theorem h_nmG {P : β → Prop} {X : Prop} {e : β} {f : β → W γ} (hw : (W.bind (W.ret e) f).run Φ) (o : P e) (k : ∀ x, P x → (f x).run Φ → X) : X := k e o hw
end
end Z
/-! # objects whose class has its own len, str, ==; isinstance; a dict's copy -/
namespace Z
open PySem PySem.Spec PyProof.Rows L2
section
variable {K : PySem.W.Frag} {H Ho : Hp} {R : Grp} {Q : VK} {C q : Addr} {v w : V} {sp : Sp} {m : Str} {cn : Str} {ns : List Str} {α : Type} [Py α]
def rDcp : List V → Hp → VK → Prop := fun xs H Q => ∃ (a : Addr) (kvs : List (Key × V)), xs = [.ref a] ∧ Rd H a (.dK kvs) ∧ ∀ p, H p = none → Q (.ref p) (upd H p (.dK kvs))
theorem zdcp {X : Cx} : CallR X (.type "dict") rDcp := call_dictD
theorem y_dcp {m : Dc Int α} (b : BD K R Ho v m) (z : Zs R H Ho) (k : ∀ p H' g, Zs (g ++ R) H' Ho → OD K Ho (.ref p) m g → Q (.ref p) H') : rDcp [v] H Q := by
  obtain ⟨p, kvs, rfl, d, h⟩ := b.rd z
  refine ⟨p, kvs, rfl, .of h, fun a ha => ?_⟩
  exact k a _ [(a, DKey.ho (κ := Int) kvs)] (z.root ha) ⟨a, kvs, rfl, d, rfl⟩
end
end Z
/-! # None, or a list of one's own -/
namespace Z
open PySem PySem.Spec PyProof.Rows L2
section
variable {K : PySem.W.Frag} {H Ho H' Ho' : Hp} {α β γ : Type} [Py α] [Py β] {Φ : γ → Prop} {R : Grp} {v w v0 v1 : V} {Q : VK} {p : Addr}
def OO (K : PySem.W.Frag) (Ho : Hp) (v : V) (o : Option (List α)) (g : Grp) : Prop := match o with
  | none => v = .non ∧ g = []
  | some xs => OL K Ho v xs g
theorem OO.mo {o : Option (List α)} {g : Grp} (h : OO K Ho v o g) (e : Same Ho Ho') : OO K Ho' v o g := by
  cases o with
  | none => exact h
  | some xs => exact OL.mo (show OL K Ho v xs g from h) e
theorem OO.non : OO K Ho .non (none : Option (List α)) [] := ⟨rfl, rfl⟩
theorem OO.some {xs : List α} {g : Grp} (h : OL K Ho v xs g) : OO K Ho v (some xs) g := h
/-- a name that is set by a loop's turn -/
def LateD (K : PySem.W.Frag) (Ho : Hp) (y : Option V) (o : Option β) : Prop := ∀ a, o = some a → ∃ v, y = some v ∧ Z.D K Ho v a
theorem LateD.mo {y : Option V} {o : Option β} (h : LateD K Ho y o) (e : Same Ho Ho') : LateD K Ho' y o := fun a ea => by
  obtain ⟨v, ev, d⟩ := h a ea
  exact ⟨v, ev, D.mo d e⟩
theorem LateD.none {y : Option V} : LateD K Ho y (none : Option β) := fun a e => by cases e
theorem LateD.some {b : β} (d : Z.D K Ho v b) : LateD K Ho (some v) (some b) := fun a e => by cases e; exact ⟨v, rfl, d⟩
end
end Z
/-! # a def with one default, called with all its arguments or with the last by its name -/
namespace L2
open PySem PySem.Spec PyProof.Rows
end L2
namespace Z
open PySem PySem.Spec PyProof.Rows L2
end Z
/-! # as Ydfl's calls by name, where the def may let errors out -/
namespace L2
open PySem PySem.Spec PyProof.Rows
end L2
namespace Z
open PySem PySem.Spec PyProof.Rows L2
end Z
/-! # all is lent up to a scalar answer; own lists of own things -/
namespace Z
open PySem PySem.Spec PyProof.Rows L2
section
variable {K : PySem.W.Frag} {H Ho H' Ho' : Hp} {rs rs' g R : Grp} {v w : V}
/-- all that there is stands for good, up to the answer of a call -/
theorem Zs.all (z : Zs rs H Ho) : Zs [] H H := ⟨Same.refl _, (fun r hr => nomatch hr), List.nodup_nil, (fun r hr => nomatch hr)⟩
theorem Zs.in_ (z : Zs rs H Ho) (m : ∀ r ∈ g, r ∈ rs) : ∀ r ∈ g, H r.1 = some r.2 := fun r h => (z.rt r (m r h)).1
end
/-! ### own things in general -/
abbrev OwnPred (β : Type) := PySem.W.Frag → Hp → V → β → Grp → Prop
class OwnD {β : Type} [Py β] (P : OwnPred β) : Prop where
  mo : ∀ {K : PySem.W.Frag} {Ho Ho2 : Hp} {v : V} {x : β} {g : Grp}, P K Ho v x g → Same Ho Ho2 → P K Ho2 v x g
  rd : ∀ {K : PySem.W.Frag} {Ho H : Hp} {v : V} {x : β} {g : Grp}, P K Ho v x g → Same Ho H → (∀ r ∈ g, H r.1 = some r.2) → Z.D K H v x
section
variable {K : PySem.W.Frag} {H Ho H' Ho' : Hp} {R : Grp} {v w : V} {α β γ : Type} [Py α] [Py β] {Φ : γ → Prop} {Q : VK}
instance : OwnD (fun K Ho v xs g => OL (α := α) K Ho v xs g) where
  mo := fun o e => OL.mo o e
  rd := fun o e m => by
    obtain ⟨p, vs, rfl, d, rfl⟩ := o
    exact .lst (m _ List.mem_cons_self) (DL.mo d e)
/-! ### own lists of own things -/
inductive RowO {β : Type} (P : V → β → Grp → Prop) : List V → List β → List Grp → Prop
  | nil : RowO P [] [] []
  | cons {v : V} {x : β} {g : Grp} {vs : List V} {xs : List β} {gs : List Grp} (h : P v x g) (t : RowO P vs xs gs) : RowO P (v :: vs) (x :: xs) (g :: gs)
theorem RowO.imp {P P' : V → β → Grp → Prop} (h : ∀ v x g, P v x g → P' v x g) : ∀ {vs : List V} {xs : List β} {gs : List Grp}, RowO P vs xs gs → RowO P' vs xs gs
  | _, _, _, .nil => .nil
  | _, _, _, .cons a t => .cons (h _ _ _ a) (t.imp h)
theorem RowO.len {P : V → β → Grp → Prop} : ∀ {vs : List V} {xs : List β} {gs : List Grp}, RowO P vs xs gs → vs.length = xs.length ∧ gs.length = xs.length
  | _, _, _, .nil => ⟨rfl, rfl⟩
  | _, _, _, .cons a t => ⟨by simp [t.len.1], by simp [t.len.2]⟩
theorem RowO.get {P : V → β → Grp → Prop} : ∀ {vs : List V} {xs : List β} {gs : List Grp} {i : Nat} {x : β}, RowO P vs xs gs → xs[i]? = some x → ∃ v g, vs[i]? = some v ∧ gs[i]? = some g ∧ P v x g
  | _, _, _, i, _, .nil, e => by simp at e
  | _, _, _, 0, _, .cons a t, e => by cases e; exact ⟨_, _, rfl, rfl, a⟩
  | _, _, _, i + 1, _, .cons a t, e => t.get (i := i) (by simpa using e)
theorem RowO.set {P : V → β → Grp → Prop} : ∀ {vs : List V} {xs : List β} {gs : List Grp} {i : Nat} {v : V} {x : β} {g : Grp}, RowO P vs xs gs → vs[i]? = some v → P v x g → RowO P vs (xs.set i x) (gs.set i g)
  | _, _, _, i, _, _, _, .nil, e, _ => by simp at e
  | _, _, _, 0, _, _, _, .cons a t, e, p => by cases e; exact .cons p t
  | _, _, _, i + 1, _, _, _, .cons a t, e, p => .cons a (t.set (i := i) (by simpa using e) p)
theorem RowO.snoc {P : V → β → Grp → Prop} : ∀ {vs : List V} {xs : List β} {gs : List Grp} {v : V} {x : β} {g : Grp}, RowO P vs xs gs → P v x g → RowO P (vs ++ [v]) (xs ++ [x]) (gs ++ [g])
  | _, _, _, _, _, _, .nil, p => .cons p .nil
  | _, _, _, _, _, _, .cons a t, p => .cons a (t.snoc p)
def OLo (P : OwnPred β) : OwnPred (List β) := fun K Ho v xs g => ∃ p vs gs, v = .ref p ∧ RowO (P K Ho) vs xs gs ∧ g = (p, HO.lst vs) :: gs.flatten
theorem OLo.mo {P : OwnPred β} [OwnD P] {xs : List β} {g : Grp} (h : OLo P K Ho v xs g) (e : Same Ho Ho') : OLo P K Ho' v xs g := by
  obtain ⟨p, vs, gs, rfl, r, rfl⟩ := h
  exact ⟨p, vs, gs, rfl, r.imp fun v x g h => OwnD.mo h e, rfl⟩
theorem RowO.rd {P : OwnPred β} [OwnD P] (e : Same Ho H) : ∀ {vs : List V} {xs : List β} {gs : List Grp}, RowO (P K Ho) vs xs gs → (∀ r ∈ gs.flatten, H r.1 = some r.2) → DL K H vs xs
  | _, _, _, .nil, _ => .nil
  | _, _, _, .cons a t, m => .cons (OwnD.rd a e fun r h => m r (by rw [List.flatten_cons]; exact List.mem_append_left _ h)) (RowO.rd e t fun r h => m r (by rw [List.flatten_cons]; exact List.mem_append_right _ h))
instance {P : OwnPred β} [OwnD P] : OwnD (OLo P) where
  mo := fun o e => OLo.mo o e
  rd := fun o e m => by
    obtain ⟨p, vs, gs, rfl, r, rfl⟩ := o
    exact .lst (m _ List.mem_cons_self) (r.rd e fun q h => m q (List.mem_cons_of_mem _ h))
/-- a list, one of whose items (i) is looked after elsewhere -/
def OLh (P : OwnPred β) (i : Int) (u : V) : OwnPred (List β) := fun K Ho v xs g => ∃ p vs gs j, v = .ref p ∧ RowO (P K Ho) vs xs gs ∧ ixN xs.length i = some j ∧ vs[j]? = some u ∧ g = (p, HO.lst vs) :: (gs.set j []).flatten
theorem OLh.mo {P : OwnPred β} [OwnD P] {i : Int} {u : V} {xs : List β} {g : Grp} (h : OLh P i u K Ho v xs g) (e : Same Ho Ho') : OLh P i u K Ho' v xs g := by
  obtain ⟨p, vs, gs, j, rfl, r, q⟩ := h
  exact ⟨p, vs, gs, j, rfl, r.imp fun v x g h => OwnD.mo h e, q⟩
/-- borrowed -/
def BLo (P : OwnPred β) (K : PySem.W.Frag) (R : Grp) (Ho : Hp) (v : V) (xs : List β) : Prop := ∃ g, OLo P K Ho v xs g ∧ ∀ r ∈ g, r ∈ R
theorem BLo.mo {P : OwnPred β} [OwnD P] {xs : List β} (h : BLo P K R Ho v xs) (e : Same Ho Ho') : BLo P K R Ho' v xs := by
  obtain ⟨g, o, m⟩ := h
  exact ⟨g, o.mo e, m⟩
theorem BLo.sub {P : OwnPred β} {R2 : Grp} {xs : List β} (h : BLo P K R Ho v xs) (e : ∀ r ∈ R, r ∈ R2) : BLo P K R2 Ho v xs := by
  obtain ⟨g, o, m⟩ := h
  exact ⟨g, o, fun r hr => e r (m r hr)⟩
theorem BLo.rd {P : OwnPred β} [OwnD P] {xs : List β} (h : BLo P K R Ho v xs) (z : Zs R H Ho) : Z.D K H v xs := by
  obtain ⟨g, o, m⟩ := h
  exact OwnD.rd o z.le (z.in_ m)
end
/-! ### comprehensions that tell own things -/
/-! ### one of several lists, picked -/
inductive LVs {α : Type} [Py α] (K : PySem.W.Frag) (R : Grp) (Ho : Hp) : List V → List (List α) → Prop
  | nil : LVs K R Ho [] []
  | cons {v : V} {x : List α} {vs : List V} {xs : List (List α)} (h : LV K R Ho v x) (t : LVs K R Ho vs xs) : LVs K R Ho (v :: vs) (x :: xs)
section
variable {K : PySem.W.Frag} {H Ho Ho' : Hp} {R rs : Grp} {v w : V} {α γ : Type} [Py α] {Φ : γ → Prop} {Q : VK} {vs : List V} {xss : List (List α)}
theorem LVs.get : ∀ {vs : List V} {xss : List (List α)} {i : Nat} {x : List α}, LVs K R Ho vs xss → xss[i]? = some x → ∃ v, vs[i]? = some v ∧ LV K R Ho v x
  | _, _, i, _, .nil, e => by simp at e
  | _, _, 0, _, .cons a t, e => by cases e; exact ⟨_, rfl, a⟩
  | _, _, i + 1, _, .cons a t, e => t.get (i := i) (by simpa using e)
theorem LVs.len : ∀ {vs : List V} {xss : List (List α)}, LVs K R Ho vs xss → vs.length = xss.length
  | _, _, .nil => rfl
  | _, _, .cons a t => by simp [t.len]
theorem LVs.mo (e : Same Ho Ho') : ∀ {vs : List V} {xss : List (List α)}, LVs K R Ho vs xss → LVs K R Ho' vs xss
  | _, _, .nil => .nil
  | _, _, .cons a t => .cons (a.mo e) (t.mo e)
end
/-! ### None, told of data of any kind -/
/-! ### methods of instances that stand for good; lists whose places are fields -/
section
variable {K : PySem.W.Frag} {H Ho : Hp} {rs R : Grp} {v w : V} {Q : VK} {QH : Hp → Prop} {q a : Addr} {cn m : Str} {ns : List Str} {G : V → Hp → Prop} {vs : List V} {i : Int} {j : Nat}
/-! self.f += n -/
theorem l_any2 {G : V → Prop} (k : G v) : LetV G v := k
end
end Z
/-! # classes whose __init__ has a default (None); zip of data of any kind -/
namespace L2
open PySem PySem.Spec PyProof.Rows
end L2
namespace Z
open PySem PySem.Spec PyProof.Rows L2
end Z
/-! # a parameter that is None or a list that is lent -/
namespace Z
open PySem PySem.Spec PyProof.Rows L2
section
variable {K : PySem.W.Frag} {H Ho Ho' : Hp} {rs rs' : List (Addr × HO)} {α : Type} [Py α] {v : V}
def OVq (K : PySem.W.Frag) (rs : List (Addr × HO)) (Ho : Hp) (v : V) (x : Option (List α)) : Prop := match x with
  | none => v = .non
  | some xs => LV K rs Ho v xs
theorem OVq.non : OVq K rs Ho .non (none : Option (List α)) := rfl
theorem OVq.some {xs : List α} (h : LV K rs Ho v xs) : OVq K rs Ho v (some xs) := h
theorem OVq.mo {x : Option (List α)} (h : OVq K rs Ho v x) (e : Same Ho Ho') : OVq K rs Ho' v x := by
  cases x with
  | none => exact h
  | some xs => exact LV.mo h e
theorem OVq.sub {x : Option (List α)} (h : OVq K rs Ho v x) (e : ∀ r ∈ rs, r ∈ rs') : OVq K rs' Ho v x := by
  cases x with
  | none => exact h
  | some xs => exact LV.sub h e
theorem OVq.rd {x : Option (List α)} (h : OVq K rs Ho v x) (z : Zs rs' H Ho) (m : ∀ r ∈ rs, r ∈ rs') : Z.D K H v x := by
  cases x with
  | none =>
    cases (show v = .non from h)
    exact Dq.non
  | some xs =>
    obtain ⟨p, vs, rfl, d, s⟩ := LV.rd (LV.sub h m) z
    exact Dq.lst s (DL.mo d z.le)
end
end Z
/-! # two items of an own list of own things, taken out at once -/
namespace Z
open PySem PySem.Spec PyProof.Rows L2
section
variable {K : PySem.W.Frag} {H Ho H' Ho' : Hp} {R : Grp} {v w u : V} {β γ : Type} [Py β] {Φ : γ → Prop}
/-- a list, two of whose items (i, j) are looked after elsewhere -/
def OLhh (P : OwnPred β) (i : Int) (u : V) (j : Int) (w : V) : OwnPred (List β) := fun K Ho v xs g => ∃ p vs gs a b, v = .ref p ∧ RowO (P K Ho) vs xs gs ∧ ixN xs.length i = some a ∧ ixN xs.length j = some b ∧ a ≠ b ∧ vs[a]? = some u ∧ vs[b]? = some w ∧ g = (p, HO.lst vs) :: ((gs.set a []).set b []).flatten
theorem OLhh.mo {P : OwnPred β} [OwnD P] {i j : Int} {xs : List β} {g : Grp} (h : OLhh P i u j w K Ho v xs g) (e : Same Ho Ho') : OLhh P i u j w K Ho' v xs g := by
  obtain ⟨p, vs, gs, a, b, rfl, r, q⟩ := h
  exact ⟨p, vs, gs, a, b, rfl, r.imp fun v x g h => OwnD.mo h e, q⟩
end
end Z
/-! # lists of lists that another holds; a tuple of a number and such a list; items of own lists read -/
namespace Z
open PySem PySem.Spec PyProof.Rows L2
section
variable {K : PySem.W.Frag} {H Ho H' Ho' : Hp} {R rs r0 g : Grp} {v w u v0 v1 : V} {α β γ : Type} [Py α] [Py β] {Φ : γ → Prop} {Q : VK}
def LLV (K : PySem.W.Frag) (R : Grp) (Ho : Hp) (v : V) (xss : List (List α)) : Prop := ∃ p vs, v = .ref p ∧ LVs K R Ho vs xss ∧ (Ho p = some (HO.lst vs) ∨ (p, HO.lst vs) ∈ R)
theorem SqL.mo {p : Addr} {vs : List V} (s : SqL K Ho p vs) (e : Same Ho Ho') : SqL K Ho' p vs := e.seq s
theorem LLV.mo {xss : List (List α)} (h : LLV K R Ho v xss) (e : Same Ho Ho') : LLV K R Ho' v xss := by
  obtain ⟨p, vs, rfl, l, s⟩ := h
  exact ⟨p, vs, rfl, l.mo e, s.imp (fun s => e _ _ s) id⟩
theorem LVs.sub {R2 : Grp} (e : ∀ r ∈ R, r ∈ R2) : ∀ {vs : List V} {xss : List (List α)}, LVs K R Ho vs xss → LVs K R2 Ho vs xss
  | _, _, .nil => .nil
  | _, _, .cons a t => .cons (a.sub e) (t.sub e)
theorem LLV.sub {R2 : Grp} {xss : List (List α)} (h : LLV K R Ho v xss) (e : ∀ r ∈ R, r ∈ R2) : LLV K R2 Ho v xss := by
  obtain ⟨p, vs, rfl, l, s⟩ := h
  exact ⟨p, vs, rfl, l.sub e, s.imp id (e _)⟩
/-- a number, and a list of lists -/
def LPG (K : PySem.W.Frag) (R : Grp) (Ho : Hp) (v : V) (x : Int × List (List α)) : Prop := ∃ v1, TupAt Ho v (.int x.1) v1 ∧ LLV K R Ho v1 x.2
theorem LPG.mo {x : Int × List (List α)} (h : LPG K R Ho v x) (e : Same Ho Ho') : LPG K R Ho' v x := by
  obtain ⟨v1, t, l⟩ := h
  exact ⟨v1, t.mo e, l.mo e⟩
theorem LPG.sub {R2 : Grp} {x : Int × List (List α)} (h : LPG K R Ho v x) (e : ∀ r ∈ R, r ∈ R2) : LPG K R2 Ho v x := by
  obtain ⟨v1, t, l⟩ := h
  exact ⟨v1, t, l.sub e⟩
/-! items that are read -/
/-! pop of a list of own things -/
theorem RowO.erase {P : V → β → Grp → Prop} : ∀ {vs : List V} {xs : List β} {gs : List Grp} {i : Nat}, RowO P vs xs gs → RowO P (vs.eraseIdx i) (xs.eraseIdx i) (gs.eraseIdx i)
  | _, _, _, i, .nil => .nil
  | _, _, _, 0, .cons a t => t
  | _, _, _, i + 1, .cons a t => .cons a (t.erase (i := i))
end
end Z
/-! # a tuple of two pairs of one's own; a loop over it, turn by turn; a borrowed pair -/
namespace Z
open PySem PySem.Spec PyProof.Rows L2
section
variable {K : PySem.W.Frag} {H Ho H' Ho' : Hp} {α β α' β' γ : Type} [Py α] [Py β] [Py α'] [Py β'] {Φ : γ → Prop} {R R' g0 g1 g rs : Grp} {v w u v0 v1 : V} {Q : VK} {σ σ' : L2.St} {x : (List α × List β) × (List α' × List β')} {p : List α × List β} {q : List α' × List β'}
def OPP (K : PySem.W.Frag) (Ho : Hp) (v : V) (x : (List α × List β) × (List α' × List β')) (g : Grp) : Prop := ∃ v0 v1 g0 g1, TupAt Ho v v0 v1 ∧ OP K Ho v0 x.1 g0 ∧ OP K Ho v1 x.2 g1 ∧ g = g0 ++ g1
theorem OPP.mo (h : OPP K Ho v x g) (e : Same Ho Ho') : OPP K Ho' v x g := by
  obtain ⟨v0, v1, g0, g1, t, o0, o1, rfl⟩ := h
  exact ⟨v0, v1, g0, g1, t.mo e, o0.mo e, o1.mo e, rfl⟩
/-- a pair of lists that another holds -/
def LP (K : PySem.W.Frag) (R : Grp) (Ho : Hp) (v : V) (x : List α × List β) : Prop := ∃ v0 v1, TupAt Ho v v0 v1 ∧ LV K R Ho v0 x.1 ∧ LV K R Ho v1 x.2
theorem LP.of2 {xs : List α} {ys : List β} (t : TupAt Ho v v0 v1) (l0 : LV K R Ho v0 xs) (l1 : LV K R Ho v1 ys) : LP K R Ho v (xs, ys) := ⟨v0, v1, t, l0, l1⟩
variable {g' : TG} {u1 tb : TS} {D : Ends} {J : It}
end
end Z
/-! # things that are read for a while: displays of what others hold -/
namespace Z
open PySem PySem.Spec PyProof.Rows L2
def RdV {α : Type} [Py α] (K : PySem.W.Frag) (R : Grp) (Ho : Hp) (v : V) (x : α) : Prop := ∀ rs H, (∀ r ∈ R, r ∈ rs) → Zs rs H Ho → Z.D K H v x
inductive RdAll (K : PySem.W.Frag) (R : Grp) (Ho : Hp) : List V → List PyData → Prop
  | nil : RdAll K R Ho [] []
  | cons {v : V} {d : PyData} {vs : List V} {ds : List PyData} (h : RdV K R Ho v d) (t : RdAll K R Ho vs ds) : RdAll K R Ho (v :: vs) (d :: ds)
section
variable {K : PySem.W.Frag} {H Ho H' Ho' : Hp} {R R2 rs g : Grp} {v w : V} {α β γ : Type} [Py α] [Py β] {Φ : γ → Prop} {Q : VK} {vs : List V} {ds : List PyData}
theorem Zs.back (z : Zs rs H Ho') (e : Same Ho Ho') : Zs rs H Ho := ⟨e.trans z.le, fun r h => ⟨(z.rt r h).1, by
  cases q : Ho r.1 with
  | none => rfl
  | some o =>
    have := e _ _ q
    rw [(z.rt r h).2] at this
    cases this⟩, z.nd, z.nt⟩
theorem RdV.mo {x : α} (h : RdV K R Ho v x) (e : Same Ho Ho') : RdV K R Ho' v x := fun rs H m z => h rs H m (z.back e)
theorem RdV.sub {x : α} (h : RdV K R Ho v x) (e : ∀ r ∈ R, r ∈ R2) : RdV K R2 Ho v x := fun rs H m z => h rs H (fun r hr => m r (e r hr)) z
theorem RdV.rd {x : α} (h : RdV K R Ho v x) (m : ∀ r ∈ R, r ∈ rs) (z : Zs rs H Ho) : Z.D K H v x := h rs H m z
theorem RdV.py {x : α} (h : RdV K R Ho v x) : RdV K R Ho v (toPy x) := fun rs H m z => h rs H m z
theorem RdV.int {x : Int} : RdV K R Ho (.int x) x := fun _ _ _ _ => .int _
theorem RdV.bl {x : Bool} : RdV K R Ho (.bl x) x := fun _ _ _ _ => .bl _
theorem RdV.str {x : Str} : RdV K R Ho (.str x) x := fun _ _ _ _ => .str _
theorem RdV.non : RdV K R Ho .non PyData.none := fun _ _ _ _ => .non
theorem RdAll.all (m : ∀ r ∈ R, r ∈ rs) (z : Zs rs H Ho) : ∀ {vs : List V} {ds : List PyData}, RdAll K R Ho vs ds → DqAll K H vs ds
  | _, _, .nil => .nil
  | _, _, .cons h t => .cons (h rs H m z) (t.all m z)
theorem RdAll.mo (e : Same Ho Ho') : ∀ {vs : List V} {ds : List PyData}, RdAll K R Ho vs ds → RdAll K R Ho' vs ds
  | _, _, .nil => .nil
  | _, _, .cons h t => .cons (h.mo e) (t.mo e)
/-! a way of its own where an error may leave -/
/-! a pair of lists, lent -/
end
end Z
/-! # min(xs, key=len, default=None), xs a list of lists; displays of dicts with one key -/
namespace Z
open PySem PySem.Spec PyProof.Rows L2
/-- where the shortest stands first -/
def atMin (ns : List Nat) : Nat := argBest (fun i j => decide ((ns.getD i 0 : Int) < (ns.getD j 0 : Int))) (ns.length - 1)
def mnLen {α : Type} (xs : List (List α)) : Option (List α) := xs[atMin (xs.map (·.length))]?
def rMinLen (K : PySem.W.Frag) : List V → Hp → VK → Prop := fun xs H Q => ∃ (l : Addr) (us : List V) (ns : List Nat), xs = [.ref l] ∧ SqL K H l us ∧ us.length = ns.length ∧ (∀ (i : Nat) (u : V), us[i]? = some u → ∃ a vs, u = .ref a ∧ SqL K H a vs ∧ vs.length = ns.getD i 0) ∧
  (us = [] → Q .non H) ∧ ∀ u, us[atMin ns]? = some u → Q u H
section
variable {X : Cx} {pins : List (Addr × Obj)} {σ : L2.St} {H : Hp} {s : Shared} {Q : VK}
/-- a heap that has grown -/
def Grown (s s' : Shared) : Prop := (∃ h' tk, s' = { s with heap := h', toks := tk }) ∧ ∀ b o, s.heap.get? b = some o → s'.heap.get? b = some o
theorem Grown.moved {s s1 s2 : Shared} {wr : List Addr} (g : Grown s s1) (m : Moved wr (fun a b => b = a) s1 s2) (hw : ∀ b ∈ wr, s.heap.objs.size ≤ b) : Grown s s2 := by
  obtain ⟨⟨h1, t1, rfl⟩, k⟩ := g
  have e1 : s2.gens = s.gens := m.gens
  have e2 : s2.drawn = s.drawn := m.drawn
  have e3 : s2.os = s.os := m.os
  refine ⟨⟨s2.heap, s2.toks, ?_⟩, fun b o e => m.heap b o (fun hb => ?_) (k b o e)⟩
  · obtain ⟨hp, g, d, tk, os⟩ := s2
    dsimp only at e1 e2 e3
    subst e1 e2 e3
    rfl
  · exact absurd (Nat.lt_of_lt_of_le (Heap.lt_size e) (hw b hb)) (Nat.lt_irrefl b)
theorem paired_get {α β : Type} {F : α → β → Prop} : ∀ {xs : List α} {ys : List β}, Paired F xs ys → ∀ (i : Nat) (y : β), ys[i]? = some y → ∃ x, xs[i]? = some x ∧ F x y
  | _, _, .nil, i, y, e => by simp at e
  | _, _, .cons h t, 0, y, e => by cases e; exact ⟨_, rfl, h⟩
  | _, _, .cons h t, i + 1, y, e => paired_get t i y e
theorem call_minLen (hc : X.calm = true) (I : Inv X pins σ H s) {l : Addr} {us : List V} {ns : List Nat} (hs : SqL X.K H l us) (hn : us.length = ns.length) (hi : ∀ (i : Nat) (u : V), us[i]? = some u → ∃ a vs, u = .ref a ∧ SqL X.K H a vs ∧ vs.length = ns.getD i 0)
    (h0 : us = [] → Q .non H) (h1 : ∀ u, us[atMin ns]? = some u → Q u H) :
    wpAny (model X.prog X.w) X.A (call (.builtin "min") [.ref l] [(Str.ofString "key", .builtin "len"), (Str.ofString "default", .none)]) (EP X pins σ Q) X.xe s := by
  obtain ⟨its, rv, hl, hz⟩ := I.list hs
  have hsz : its.toArray.size = ns.length := by rw [List.size_toArray, ← rv.length, hn]
  have item : ∀ (i : Nat) (v : Value), its.toArray[i]? = some v → ∃ a, v = .ref a ∧ ∃ w : Array Value, s.heap.IsList a w ∧ w.size = ns.getD i 0 ∧ w.size ≤ sizeLine := fun i v e => by
    rw [List.getElem?_toArray] at e
    obtain ⟨u, eu, r⟩ := paired_get rv i v e
    obtain ⟨a, vs, rfl, sq, hlen⟩ := hi i u eu
    obtain rfl : v = Value.ref a := r
    obtain ⟨its2, rv2, hl2, hz2⟩ := I.list sq
    exact ⟨a, rfl, its2.toArray, hl2.isList, by rw [List.size_toArray, ← rv2.length, hlen], by rw [List.size_toArray, ← rv2.length]; exact hz2⟩
  refine call_min_walkKBD (PySem.W.iter_listW (A := X.A.in1) (I.ok.hd hc) hl.isList fun s₂ e W st hfp hw hk => ?_)
  refine ⟨_, _, _, _, _, _, _, Grown s, fun i k _ => ∃ t, k = Value.int (ns.getD i 0 : Int) t, fun i j => decide ((ns.getD i 0 : Int) < (ns.getD j 0 : Int)), rfl, W, st, hfp, ⟨fun s1 s2 g m => g.moved m fun b hb => ?_, fun i k s1 s2 hv _ => hv, fun i v s1 o Q' E' hin hP hJ hSt hS hQ => ?_, fun i j ki kj s1 Q' E' hJ hv hv' hq => ?_⟩, ⟨⟨s₂.heap, s₂.toks, by subst e; rfl⟩, hk⟩, fun hz0 s' hJ => ?_, fun hp v s' hP hJ => ?_⟩
  · rcases List.mem_cons.mp hb with rfl | hb
    · subst e
      show s.heap.objs.size ≤ (s.heap.push _).objs.size
      rw [Heap.size_push]
      exact Nat.le_succ _
    · rw [List.mem_singleton.mp hb]; exact Nat.le_refl _
  · obtain ⟨a, rfl, w, hw2, hlen, hbig⟩ := item i v hP
    have hw3 : s1.heap.IsList a w := by
      obtain ⟨o1, e1, r1⟩ := hw2
      exact ⟨o1, hJ.2 _ _ e1, r1⟩
    refine PySem.Calls.call_len_list hw3 (by
      have : sizeLine ≤ 2 ^ 40 := by decide
      omega) ?_
    refine hQ _ _ ⟨?_, hJ.2⟩ hSt hS ⟨_, by rw [hlen]⟩ fun j k' h => h
    obtain ⟨⟨h', tk, rfl⟩, _⟩ := hJ
    exact ⟨h', _, rfl⟩
  · obtain ⟨t, rfl⟩ := hv
    obtain ⟨t', rfl⟩ := hv'
    exact lt_int hq
  · obtain ⟨⟨h', tk, rfl⟩, k⟩ := hJ
    exact ⟨.non, H, I.kept (t' := tk) k, rfl, h0 (List.eq_nil_of_length_eq_zero (by omega))⟩
  · obtain ⟨⟨h', tk, rfl⟩, k⟩ := hJ
    rw [hsz] at hP
    have hP : its.toArray[atMin ns]? = some v := hP
    rw [List.getElem?_toArray] at hP
    obtain ⟨u, eu, r⟩ := paired_get rv _ v hP
    exact ⟨u, H, I.kept (t' := tk) k, r, h1 u eu⟩
def tMinLen (K : PySem.W.Frag) (t : TA) : TE := fun σ H Q => t σ H fun vs H1 => rMinLen K vs H1 Q
theorem pe_minLen {K : PySem.W.Frag} {a ed : Expr} {t : TA} {p p2 kp kp2 pos : Pos} (hK : X.K = K) (hc : X.calm = true) (hg : Gl X "min") (hm : X.mg "min" = none) (hg2 : Gl X "len") (hm2 : X.mg "len" = none) (ha : PA X [a] t) (hd : PE X ed (tC .non))
    (he : backTo pos (starEach [a] X.env) = (false, eval a X.env) :: backTo pos (starEach [] X.env) := by rfl) (hpl : (backTo pos (starEach [a] X.env)).any (·.1) = false := by rfl) :
    PE X (.Call (.Name "min" p) [a] [⟨some "key", .Name "len" p2, kp⟩, ⟨some "default", ed, kp2⟩] pos) (tMinLen K t) := by
  subst hK
  refine ⟨fun pins s σ H Q I h => ?_⟩
  refine wpAny_Call_Name_kw (ld_blt I hg hm (u := .builtin "min") (by decide +kernel) ?_)
  refine PyProof.Rows.callWith_kw (thn (ha.run pos pins s σ H _ I h) fun us s1 ⟨vs, H1, I1, r1, q1⟩ => ?_) he hpl rfl rfl
  obtain ⟨l, ws, ns, rfl, a1, a2, a3, a4, a5⟩ := q1
  refine PyProof.Rows.kwAll_cons (ld_blt I1 hg2 hm2 (u := .builtin "len") (by decide +kernel) ?_)
  refine PyProof.Rows.kwAll_cons (thn (hd.run pins s1 σ H1 (fun v H2 => v = .non ∧ H2 = H1) I1 ⟨rfl, rfl⟩) fun u s2 ⟨v, H2, I2, rv, e1, e2⟩ => PyProof.Rows.kwAll_nil ?_)
  subst e1 e2
  obtain rfl := Vals.ref1 r1
  obtain rfl : u = Value.none := rv
  exact call_minLen hc I2 a1 a2 a3 a4 a5
end
section
variable {K : PySem.W.Frag} {rs R : Grp} {H Ho : Hp} {σ : L2.St} {Q : VK} {v : V} {α : Type} [Py α] {t : TA}
theorem y_mln (k : t σ H fun vs H1 => rMinLen K vs H1 Q) : tMinLen K t σ H Q := k
theorem y_minLen {xs : List (List α)} (d : LV K rs Ho v xs) (z : Zs rs H Ho) (k : ∀ u, Z.D K Ho u (mnLen xs) → Q u H) : rMinLen K [v] H Q := by
  obtain ⟨l, us, rfl, dl, sq⟩ := LV.rd d z
  have hlen : us.length = (xs.map (·.length)).length := by rw [dl.len, List.length_map]
  refine ⟨l, us, xs.map (·.length), rfl, sq, hlen, fun i u hu => ?_, fun e => ?_, fun u hu => ?_⟩
  · have hi := (List.getElem?_eq_some_iff.mp hu).1
    have hi : i < xs.length := by rw [← dl.len]; exact hi
    have hx := List.getElem?_eq_getElem hi
    obtain ⟨w, ew, dw⟩ := dl.get hx
    rw [hu] at ew
    cases ew
    have dw : Dq K Ho u (.list (xs[i].map Py.toPy)) := dw
    cases dw with
    | lst hs hd =>
      refine ⟨_, _, rfl, z.le.seq (SqL.of hs), ?_⟩
      rw [dpAll_len hd, List.length_map, List.getD_eq_getElem?_getD, List.getElem?_map, hx]
      rfl
  · have hx : xs = [] := List.length_eq_zero_iff.mp (by rw [← dl.len, e]; rfl)
    refine k _ ?_
    rw [hx]
    exact Dq.non
  · have hx : ∃ x, xs[atMin (xs.map (·.length))]? = some x := by
      have hi := (List.getElem?_eq_some_iff.mp hu).1
      exact ⟨_, List.getElem?_eq_getElem (show _ < xs.length by rw [← dl.len]; exact hi)⟩
    obtain ⟨x, ex⟩ := hx
    obtain ⟨w, ew, dw⟩ := dl.get ex
    rw [hu] at ew
    cases ew
    refine k _ ?_
    unfold mnLen
    rw [ex]
    exact dw
end
/-! displays of dicts with one key -/
section
variable {X : Cx} {pins : List (Addr × Obj)} {σ : L2.St} {s : Shared} {H Ho : Hp} {Q : VK} {tk tv : TE} {K : PySem.W.Frag} {R : Grp} {α β : Type} [Py α] {v w : V}
def Dsp1T (Q : VK) (p : Addr) (x y : V) (H : Hp) : Prop := ∃ (b : Addr) (k : List L2.Key), x = .ref b ∧ H b = some (.tup (k.map kV)) ∧ H p = some (.dT []) ∧ Q (.ref p) (upd H p (.dT [(k, y)]))
def tDisp1T (tk tv : TE) : TE := fun σ H Q => ∀ p, H p = none → tk σ (upd H p (.dT [])) fun x H1 => tv σ H1 fun y H2 => Dsp1T Q p x y H2
theorem pe_disp1T {pos : Pos} {ke ve : Expr} (hu : X.A.units + 1 < cLine) (hk : PE X ke tk) (hv : PE X ve tv) : PE X (.Dict [some ke] [ve] pos) (tDisp1T tk tv) := by
  refine ⟨fun pins s σ H Q I q => ?_⟩
  have hn := I.hok.fresh (Nat.le_refl s.heap.objs.size)
  have I1 := I.laid (a := s.heap.objs.size) (o := .dT []) (h' := s.heap.push { cls := .type "dict", data := .dict #[] }) (t' := s.toks) (fun _ _ q => Heap.get?_push_of_some _ q) (Nat.le_refl _) (dt_empty s.heap I.big)
  rw [arm_eval_Dict, zip_pairTrees [some ke] [ve] X.env pos rfl rfl, dictDisplay_pairs _ (by simp [pairTrees]) (by show 1 < 17; decide)]
  refine wpAny_bind (wpAny_standAt (wpAny_bind (wpAny_subDictH (knd := tupleKind (mixKind X.prog X.w)) (Q := fun d s' => wpAny (model X.prog X.w) X.A (pure (Value.ref d)) (EP X pins σ Q) X.xe s') (show X.A.units < cLine by omega) (by show 1 ≤ 15; decide) ?_)))
  refine pairTrees_cons_walk (thn (hk.run pins _ σ _ _ I1 (q _ hn)) fun u s1 ⟨x, H1, I2, rx, q1⟩ => thn (hv.run pins s1 σ H1 _ I2 q1) fun w2 s2 ⟨y, H2, I3, ry, b, k, ex, eb, ep, q2⟩ => pairTrees_nil_walk ?_)
  subst ex
  obtain rfl : u = Value.ref b := rx
  obtain ⟨zz, hd, xs, rel, dd⟩ := dt_of I3.hok ep
  have ex : xs = [] := by cases rel; rfl
  subst ex
  refine ⟨[(k, b, w2)], ⟨rfl, rfl, key_of I3.hok eb, trivial⟩, dd, fun h' tk dd' hs => wpAny_pure ⟨.ref s.heap.objs.size, upd H2 s.heap.objs.size (.dT [(k, y)]), ?_, rfl, q2⟩⟩
  obtain ⟨o, es, ep', hq, g2, g3, g4, g4', g5⟩ := dd'
  refine d_write I3 (by rw [ep]; exact True.intro) hs ⟨o, hq⟩ ⟨by show 1 ≤ sizeLine; decide, hd, _, (rel.put k eb ry).keeps fun c ys ec => ?_, o, es, ep', hq, g2, g3, g4, g5⟩
  rw [upd_ne (ne_of ec ep (fun z => nomatch z))]
  exact ec
theorem k_disp1T (z : Zs R H Ho) (k : ∀ p H', Zs ([(p, HO.dT [])] ++ R) H' Ho → tk σ H' fun x H1 => tv σ H1 fun y H2 => Dsp1T Q p x y H2) : tDisp1T tk tv σ H Q := fun p hp => k p _ (z.root hp)
theorem g_disp1T {p : Addr} {k : P4 Int Int Int Int} {a : α} (z : Zs ([(p, HO.dT [])] ++ R) H Ho) (dk : Z.D K Ho v k) (dv : Z.D K Ho w a) (kk : ∀ g H', Zs (g ++ R) H' Ho → OD K Ho (.ref p) ([(k, a)] : Dc (P4 Int Int Int Int) α) g → Q (.ref p) H') : Dsp1T Q p v w H := by
  cases dk with
  | tup hs ha =>
    cases ha with
    | cons h1 ha => cases ha with
      | cons h2 ha => cases ha with
        | cons h3 ha => cases ha with
          | cons h4 ha =>
            cases ha
            rw [d_int h1, d_int h2, d_int h3, d_int h4] at hs
            exact ⟨_, [.inl k.a, .inl k.b, .inl k.c, .inl k.d], rfl, z.le _ _ hs, z.head, kk _ _ z.put ⟨p, [(_, w)], rfl, ⟨rfl, .cons dv .nil⟩, rfl⟩⟩
def Dsp1K (Q : VK) (p : Addr) (x y : V) (H : Hp) : Prop := H p = some (.dK []) ∧ ∃ kvs : List (L2.Key × V), [(x, y)] = kvs.map (fun kv => (kV kv.1, kv.2)) ∧ kvs.length ≤ 15 ∧ Q (.ref p) (upd H p (.dK (mergeK [] kvs)))
theorem k_disp1K (z : Zs R H Ho) (k : ∀ p H', Zs ([(p, HO.dK [])] ++ R) H' Ho → tk σ H' fun x H1 => tv σ H1 fun y H2 => Dsp1K Q p x y H2) : tDisp [(tk, tv)] σ H Q := fun p hp => k p _ (z.root hp)
theorem g_disp1K {p : Addr} {i : Int} {a : α} (z : Zs ([(p, HO.dK [])] ++ R) H Ho) (dv : Z.D K Ho w a) (kk : ∀ g H', Zs (g ++ R) H' Ho → OD K Ho (.ref p) ([(i, a)] : Dc Int α) g → Q (.ref p) H') : Dsp1K Q p (.int i) w H :=
  ⟨z.head, [(.inl i, w)], rfl, by show 1 ≤ 15; decide, kk _ _ z.put ⟨p, [(.inl i, w)], rfl, ⟨rfl, .cons dv .nil⟩, rfl⟩⟩
theorem pe_disp1K {pos : Pos} {ke ve : Expr} (hk : PE X ke tk) (hv : PE X ve tv) : PE X (.Dict [some ke] [ve] pos) (tDisp [(tk, tv)]) := pe_disp (pps_cons hk hv pps_nil) rfl rfl (by simp) (by show 1 ≤ 15; decide)
end
/-! xs.remove(x) of four ints -/
/-! None, True or False -/
end Z
/-! # sorted(set(..)) of fewer than 64 tuples of ints; tuples alone are kept of what stands for good -/
namespace Z
open PySem PySem.Spec PyProof.Rows L2
section
variable {α : Type} [Py α] [Ktup α]
variable {K : PySem.W.Frag} {H Ho H' Ho' : Hp} {R : Grp} {v w : V} {Q : VK} {P : Program} {wd : World} {a : Addr} {L : List (Addr × List Int)} {xs : List α}
theorem tup_at {x : α} (d : Z.D K Ho w x) : ∃ p, w = .ref p ∧ Ho p = some (.tup ((Ktup.key x).map V.int)) := by
  have d : Dq K Ho w (toPy x) := d
  rw [Ktup.py] at d
  cases d with
  | tup hs ha =>
    have e := dl_ints (xs := Ktup.key x) ha
    rw [e] at hs
    exact ⟨_, rfl, hs⟩
theorem at_tup {x : α} {p : Addr} (h : Ho p = some (.tup ((Ktup.key x).map V.int))) : Z.D K Ho (.ref p) x := by
  show Dq K Ho (.ref p) (toPy x)
  rw [Ktup.py]
  exact .tup h ints_dl
def SetL (Ho : Hp) (L : List (Addr × List Int)) (xs : List α) : Prop := (∀ p ∈ L, ∃ x ∈ xs, p.2 = Ktup.key x ∧ Ho p.1 = some (.tup ((Ktup.key x).map V.int))) ∧ ∀ x ∈ xs, ∃ p ∈ L, p.2 = Ktup.key x
theorem dl_ks {vs : List V} : ∀ {xs : List α}, DL K Ho vs xs → ∃ ks : List (Addr × List Int), vs = ks.map (fun p => V.ref p.1) ∧ SetL Ho ks xs ∧ ks.length = xs.length := by
  induction vs with
  | nil =>
    intro xs h
    cases xs with
    | nil => exact ⟨[], rfl, ⟨fun p hp => absurd hp List.not_mem_nil, fun x hx => absurd hx List.not_mem_nil⟩, rfl⟩
    | cons x xs => cases h
  | cons v vs ih =>
    intro xs h
    cases xs with
    | nil => cases h
    | cons x xs =>
      cases h with
      | cons h1 h2 =>
        obtain ⟨p, rfl, hp⟩ := tup_at (x := x) h1
        obtain ⟨ks, rfl, ⟨s1, s2⟩, hl⟩ := ih (xs := xs) h2
        refine ⟨(p, Ktup.key x) :: ks, rfl, ⟨fun q hq => ?_, fun y hy => ?_⟩, by rw [List.length_cons, List.length_cons, hl]⟩
        · rcases List.mem_cons.mp hq with e | e
          · subst e
            exact ⟨x, List.mem_cons_self, rfl, hp⟩
          · obtain ⟨y, hy, a, b⟩ := s1 q e
            exact ⟨y, List.mem_cons_of_mem _ hy, a, b⟩
        · rcases List.mem_cons.mp hy with e | e
          · subst e
            exact ⟨_, List.mem_cons_self, rfl⟩
          · obtain ⟨q, hq, a⟩ := s2 y e
            exact ⟨q, List.mem_cons_of_mem _ hq, a⟩
theorem ks_dl : ∀ {L : List (Addr × List Int)}, (∀ p ∈ L, ∃ x ∈ xs, p.2 = Ktup.key x ∧ Ho p.1 = some (.tup ((Ktup.key x).map V.int))) → ∃ ys : List α, ys.map Ktup.key = L.map (·.2) ∧ DL K Ho (L.map fun p => V.ref p.1) ys ∧ ∀ y ∈ ys, y ∈ xs
  | [], _ => ⟨[], rfl, .nil, fun y hy => by cases hy⟩
  | p :: L, h => by
    obtain ⟨x, hx, e, ht⟩ := h p List.mem_cons_self
    obtain ⟨ys, e1, e2, e3⟩ := ks_dl (L := L) fun q hq => h q (List.mem_cons_of_mem _ hq)
    refine ⟨x :: ys, by rw [List.map_cons, List.map_cons, e1, e], .cons (at_tup ht) e2, fun y hy => ?_⟩
    rcases List.mem_cons.mp hy with q | q
    · rw [q]; exact hx
    · exact e3 y q
end
/-! ## what stood for good is one's own again -/
section
variable {K : PySem.W.Frag} {H Ho H' Ho' : Hp} {R g : Grp} {v v0 v1 : V} {Q : VK} {α β γ : Type} [Py α] {Φ : γ → Prop}
def Thin (Ho Ho2 : Hp) : Prop := ∀ b vs, Ho b = some (.tup vs) → Ho2 b = some (.tup vs)
class DThin (α : Type) [Py α] : Prop where
  th : ∀ {K : PySem.W.Frag} {Ho Ho2 : Hp} {v : V} {x : α}, Z.D K Ho v x → Thin Ho Ho2 → Z.D K Ho2 v x
instance : DThin Int := ⟨fun d _ => by rw [d_int d]; exact .int _⟩
instance (priority := low) {α : Type} [Py α] [Ktup α] : DThin α := ⟨fun d t => by
  obtain ⟨p, rfl, hp⟩ := tup_at d
  exact at_tup (t _ _ hp)⟩
theorem dl_thin [DThin α] {Ho Ho2 : Hp} (t : Thin Ho Ho2) {vs : List V} : ∀ {xs : List α}, DL K Ho vs xs → DL K Ho2 vs xs := by
  induction vs with
  | nil =>
    intro xs h
    cases xs with
    | nil => exact .nil
    | cons x xs => cases h
  | cons v vs ih =>
    intro xs h
    cases xs with
    | nil => cases h
    | cons x xs =>
      cases h with
      | cons h1 h2 => exact .cons (DThin.th (x := x) h1 t) (ih (xs := xs) h2)
theorem OL.thin [DThin α] {Ho Ho2 : Hp} {xs : List α} (t : Thin Ho Ho2) (o : OL K Ho v xs g) : OL K Ho2 v xs g := by
  obtain ⟨p, vs, rfl, d, rfl⟩ := o
  exact ⟨p, vs, rfl, dl_thin t d, rfl⟩
theorem TupAt.thin {Ho Ho2 : Hp} (t : Thin Ho Ho2) (h : TupAt Ho v v0 v1) : TupAt Ho2 v v0 v1 := by
  obtain ⟨p, rfl, hp⟩ := h
  exact ⟨p, rfl, t _ _ hp⟩
theorem y_thaw {X : Prop} [DThin α] {xs : List α} (d : Z.D K Ho v xs) (z : Zs R H Ho) (k : ∀ g Ho2, Thin Ho Ho2 → Zs (g ++ R) H Ho2 → OL K Ho2 v xs g → X) : X := by
  have d : Dq K Ho v (.list (xs.map Py.toPy)) := d
  cases d with
  | @lst a vs _ hs ha =>
    have th : Thin Ho (fun b => if b = a then none else Ho b) := fun b us e => by
      have : b ≠ a := fun c => by
        subst c
        rw [hs] at e
        cases e
      show (if b = a then none else Ho b) = _
      rw [if_neg this]
      exact e
    refine k [(a, HO.lst vs)] _ th ⟨fun b x e => ?_, fun r hr => ?_, ?_, fun r hr => ?_⟩ ⟨a, vs, rfl, dl_thin th ha, rfl⟩
    · by_cases c : b = a
      · rw [if_pos c] at e; cases e
      · rw [if_neg c] at e; exact z.le b x e
    · rcases List.mem_cons.mp hr with e | hr
      · subst e
        exact ⟨z.le _ _ hs, if_pos rfl⟩
      · obtain ⟨h1, h2⟩ := z.rt r hr
        refine ⟨h1, ?_⟩
        show (if r.1 = a then none else Ho r.1) = none
        split
        · rfl
        · exact h2
    · refine List.nodup_cons.mpr ⟨fun hm => ?_, z.nd⟩
      obtain ⟨r, hr, e⟩ := List.mem_map.mp hm
      have := (z.rt r hr).2
      rw [show r.1 = a from e, hs] at this
      cases this
    · rcases List.mem_cons.mp hr with e | hr
      · subst e; trivial
      · exact z.nt r hr
end
end Z
/-! # sets of up to some four thousand tuples of ints: the round of x → 5 x + 1 modulo any power of two, and the tables by it -/
namespace Zb
open PySem PySem.Spec PyProof.Rows L2
/-! ## the round -/
def gs : Nat → Nat
  | 0 => 0
  | n + 1 => gs n * 5 + 1
theorem gs_pow : ∀ n, 4 * gs n + 1 = 5 ^ n
  | 0 => rfl
  | n + 1 => by
    rw [Nat.pow_succ, ← gs_pow n]
    show 4 * (gs n * 5 + 1) + 1 = _
    omega
theorem gs_add (a : Nat) : ∀ b, gs (a + b) = 5 ^ b * gs a + gs b
  | 0 => by simp [gs]
  | b + 1 => by
    show gs (a + b) * 5 + 1 = _ + (gs b * 5 + 1)
    rw [gs_add a b]
    grind
theorem gs_two : ∀ k, ∃ c, gs (2 ^ k) = 2 ^ k * (2 * c + 1)
  | 0 => ⟨0, rfl⟩
  | k + 1 => by
    obtain ⟨c, e⟩ := gs_two k
    refine ⟨2 * c * gs (2 ^ k) + c + gs (2 ^ k), ?_⟩
    have h : gs (2 ^ (k + 1)) = (4 * gs (2 ^ k) + 1) * gs (2 ^ k) + gs (2 ^ k) := by rw [gs_pow, ← gs_add, ← Nat.mul_two, ← Nat.pow_succ]
    rw [h, Nat.pow_succ]
    generalize gs (2 ^ k) = g at e ⊢
    generalize 2 ^ k = A at e ⊢
    grind
theorem gs_hits : ∀ (k j : Nat), j < 2 ^ k → ∃ b, b < 2 ^ k ∧ gs b % 2 ^ k = j
  | 0, j, h => ⟨0, Nat.one_pos, by rw [Nat.lt_one_iff.mp h]; rfl⟩
  | k + 1, j, h => by
    obtain ⟨c, ec⟩ := gs_two k
    have hp : 0 < 2 ^ k := Nat.two_pow_pos k
    obtain ⟨b, hb, e⟩ := gs_hits k (j % 2 ^ k) (Nat.mod_lt _ hp)
    have split2 : ∀ x, x % (2 ^ k * 2) = x % 2 ^ k + 2 ^ k * (x / 2 ^ k % 2) := fun x => Nat.mod_mul
    have ej : j = j % 2 ^ k + 2 ^ k * (j / 2 ^ k % 2) := by rw [← split2, Nat.mod_eq_of_lt (by rw [← Nat.pow_succ]; exact h)]
    have eb : gs (b + 2 ^ k) = gs b + 2 ^ k * (2 * (4 * c * gs b + 2 * gs b + c) + 1) := by
      rw [gs_add, ← gs_pow]
      generalize gs (2 ^ k) = y at ec ⊢
      generalize 2 ^ k = A at ec ⊢
      generalize gs b = x
      grind
    rw [Nat.pow_succ]
    by_cases q : gs b / 2 ^ k % 2 = j / 2 ^ k % 2
    · exact ⟨b, by omega, by rw [split2, e, q]; exact ej.symm⟩
    · refine ⟨b + 2 ^ k, by omega, ?_⟩
      have q1 : gs (b + 2 ^ k) % 2 ^ k = j % 2 ^ k := by rw [eb, Nat.add_mul_mod_self_left, e]
      have q2 : gs (b + 2 ^ k) / 2 ^ k % 2 = j / 2 ^ k % 2 := by
        rw [eb, Nat.add_mul_div_left _ _ hp]
        omega
      rw [split2, q1, q2]
      exact ej.symm
theorem lcg_gs (m : Nat) : ∀ n, lcgN m n = gs n % (m + 1)
  | 0 => (Nat.zero_mod _).symm
  | n + 1 => by
    show (lcgN m n * 5 + 1) % (m + 1) = (gs n * 5 + 1) % (m + 1)
    rw [lcg_gs m n, Nat.add_mod, Nat.mul_mod, Nat.mod_mod, ← Nat.mul_mod, ← Nat.add_mod]
/-- the tables' masks, one behind the other -/
def GM (m : Nat) : Prop := m = 7 ∨ m = 31 ∨ m = 127 ∨ m = 511 ∨ m = 2047 ∨ m = 8191
theorem GM.pw {m : Nat} (h : GM m) : ∃ k, m + 1 = 2 ^ k := by
  rcases h with rfl | rfl | rfl | rfl | rfl | rfl
  · exact ⟨3, rfl⟩
  · exact ⟨5, rfl⟩
  · exact ⟨7, rfl⟩
  · exact ⟨9, rfl⟩
  · exact ⟨11, rfl⟩
  · exact ⟨13, rfl⟩
theorem GM.odd {m : Nat} (h : GM m) : m % 2 = 1 := by rcases h with rfl | rfl | rfl | rfl | rfl | rfl <;> rfl
theorem GM.le {m : Nat} (h : GM m) : 10 * SetTable.turns m ≤ 90000 := by
  unfold SetTable.turns
  rcases h with rfl | rfl | rfl | rfl | rfl | rfl <;> decide
theorem hits {m i j : Nat} (hm : GM m) (hi : i ≤ m) (hj : j ≤ m) : ∃ k, k ≤ m ∧ lcgI m i k = j := by
  obtain ⟨e, he⟩ := hm.pw
  have one : ∀ x, x ≤ m → ∃ b, b ≤ m ∧ lcgN m b = x := fun x hx => by
    obtain ⟨b, hb, eb⟩ := gs_hits e x (by omega)
    exact ⟨b, by omega, by rw [lcg_gs, he]; exact eb⟩
  have back : ∀ x, lcgN m (m + 1 + x) = lcgN m x := fun x => by
    obtain ⟨c, ec⟩ := gs_two e
    rw [lcg_gs, lcg_gs, he, gs_add, ec, Nat.mul_left_comm, Nat.mul_add_mod]
  obtain ⟨a, ha, rfl⟩ := one i hi
  obtain ⟨b, hb, rfl⟩ := one j hj
  by_cases c : a ≤ b
  · exact ⟨b - a, by omega, by rw [lcgN_add]; congr 1; omega⟩
  · refine ⟨m + 1 + b - a, by omega, ?_⟩
    rw [lcgN_add, ← back b]
    congr 1
    omega
theorem run_hits {m j : Nat} (hm : GM m) (h : Int) (hj : j ≤ m) : ∃ n, n ≤ m + 12 ∧ runI m (SetTable.bits h) n = j := by
  obtain ⟨k, hk, e⟩ := hits hm (runI_le m (SetTable.bits h) 12) hj
  refine ⟨12 + k, by omega, ?_⟩
  rw [runI_tail (bits_lt h), e]
theorem way_hits {m j : Nat} (hm : GM m) (h : Int) (hj : j ≤ m) : ∃ k, k < 10 * SetTable.turns m ∧ way m h k = j := by
  obtain ⟨n, hn, e⟩ := run_hits hm h hj
  obtain ⟨k, hk, e2⟩ := run_nth m (SetTable.bits h) n
  have lt : k < 10 * SetTable.turns m := by unfold SetTable.turns; omega
  exact ⟨k, lt, (congrArg SetTable.Probe.j e2).trans e⟩
theorem way_in {m : Nat} {h : Int} {k : Nat} : way m h k ≤ m := by
  have b : SetTable.bits h % (m + 1) < m + 1 := Nat.mod_lt _ (Nat.succ_pos m)
  have r := runEnd_bd (m := m) (i := SetTable.bits h % (m + 1)) (by omega)
  have q := nth_in (m := m) k (runAt m (SetTable.bits h % (m + 1)) (SetTable.bits h)) (by dsimp only [runAt]; omega)
  exact Nat.le_trans (Nat.le_add_right _ _) q
/-! ## tables -/
/-- all hashes are found again -/
structure TG (t : SetTable) (hs : List Int) : Prop where
  ri : Ris t.place.toList
  du : t.dummies = #[]
  si : t.place.toList.length = hs.length
  gm : GM t.mask
  le : ∀ x ∈ t.place.toList, x ≤ t.mask
  re : ∀ (i : Nat) (h : Int) (j : Nat), hs[i]? = some h → t.place.toList[i]? = some j → ∃ k, way t.mask h k = j ∧ ∀ c, c < k → way t.mask h c ∈ t.place.toList
section
variable {t : SetTable} {hs : List Int}
theorem TG.hole (T : TG t hs) (hl : hs.length ≤ t.mask) (h : Int) : ∃ K, K < 10 * SetTable.turns t.mask ∧ way t.mask h K ∉ t.place.toList ∧ ∀ k, k < K → way t.mask h k ∈ t.place.toList := by
  obtain ⟨j, hj, no⟩ := st_missing t.place.toList (t.mask + 1) (by have := T.si; omega)
  obtain ⟨k, hk, e⟩ := way_hits T.gm h (Nat.le_of_lt_succ hj)
  obtain ⟨K, h1, h2, h3⟩ := st_least (p := fun k => way t.mask h k ∉ t.place.toList) k (by rw [e]; exact no)
  exact ⟨K, by omega, h2, fun c hc => Classical.byContradiction fun z => h3 c hc z⟩
theorem TG.ahead (T : TG t hs) {h : Int} {K i j : Nat} (hK : way t.mask h K ∉ t.place.toList) (hi : hs[i]? = some h) (hj : t.place.toList[i]? = some j) : ∃ k, k < K ∧ way t.mask h k = j := by
  obtain ⟨k, e, hb⟩ := T.re i h j hi hj
  refine ⟨k, Classical.byContradiction fun z => ?_, e⟩
  rcases Nat.lt_or_ge K k with c | c
  · exact hK (hb K c)
  · obtain rfl : k = K := by omega
    exact hK (by rw [e]; exact List.mem_of_getElem? hj)
/-- one more -/
theorem TG.more (T : TG t hs) {h : Int} {K : Nat} (hK : way t.mask h K ∉ t.place.toList) (hb : ∀ k, k < K → way t.mask h k ∈ t.place.toList) :
    ∃ p, (t.put (way t.mask h K)).2 = p ∧ p ≤ hs.length ∧ TG (t.put (way t.mask h K)).1 (hs.take p ++ h :: hs.drop p) ∧ (t.put (way t.mask h K)).1.fill = hs.length + 1 := by
  have win : way t.mask h K ≤ t.mask := way_in
  obtain ⟨j, ej⟩ : ∃ j, way t.mask h K = j := ⟨_, rfl⟩
  rw [ej] at hK win ⊢
  have cut := (below_cut T.ri j).1
  have si := T.si
  rw [← Array.length_toList, si] at cut
  have pl := put_place t j
  have no : t.place[SetTable.below t.place j]? ≠ some j := by
    rw [← Array.getElem?_toList]
    exact fun e => hK (List.mem_of_getElem? e)
  have ln : (t.put j).1.place.toList.length = hs.length + 1 := by rw [pl, len_ins _ (by omega), si]
  have sub : ∀ x ∈ t.place.toList, x ∈ (t.put j).1.place.toList := fun x hx => by rw [pl]; exact mem_ins.mpr (.inr hx)
  refine ⟨SetTable.below t.place j, rfl, cut, ⟨ris_insert T.ri no, put_dm T.du j, by rw [ln, len_ins _ cut], T.gm, fun x hx => ?_, fun i h' j' a b => ?_⟩, ?_⟩
  · rw [pl, mem_ins] at hx
    rcases hx with rfl | hx
    · exact win
    · exact T.le x hx
  · rw [tins_get _ cut] at a
    rw [pl, tins_get _ (by omega)] at b
    show ∃ k, way t.mask h' k = j' ∧ ∀ c, c < k → way t.mask h' c ∈ (t.put j).1.place.toList
    by_cases c1 : i < SetTable.below t.place j
    · rw [if_pos c1] at a b
      obtain ⟨k, e, z⟩ := T.re i h' j' a b
      exact ⟨k, e, fun c hc => sub _ (z c hc)⟩
    · rw [if_neg c1] at a b
      by_cases c2 : i = SetTable.below t.place j
      · rw [if_pos c2] at a b
        cases a
        cases b
        exact ⟨K, ej, fun c hc => sub _ (hb c hc)⟩
      · rw [if_neg c2] at a b
        obtain ⟨k, e, z⟩ := T.re (i - 1) h' j' a b
        exact ⟨k, e, fun c hc => sub _ (z c hc)⟩
  · show (t.put j).1.place.size + (t.put j).1.dummies.size = _
    rw [← Array.length_toList, ln, put_dm T.du j]
    rfl
end
/-! ## all laid anew -/
theorem free_at {m j : Nat} (hm : GM m) (ow : Array (Option Nat)) (h : Int) (hj : j ≤ m) (hf : oAt ow j = none) :
    ∃ K, SetTable.layClean.free m ow (SetTable.turns m) (SetTable.bits h % (m + 1)) (SetTable.bits h) = some (way m h K) ∧ oAt ow (way m h K) = none ∧ ∀ k, k < K → oAt ow (way m h k) ≠ none := by
  obtain ⟨n, hn, e⟩ := run_hits hm h hj
  have ew : way m h (off m (SetTable.bits h % (m + 1)) (SetTable.bits h) n) = j := by
    have := congrArg SetTable.Probe.j (nth_off m n (SetTable.bits h % (m + 1)) (SetTable.bits h))
    rw [itL_run] at this
    exact this.trans e
  obtain ⟨K, k1, k2, k3⟩ := st_least (p := fun k => oAt ow (way m h k) = none) _ (show oAt ow (way m h (off m (SetTable.bits h % (m + 1)) (SetTable.bits h) n)) = none by rw [ew]; exact hf)
  refine ⟨K, free_spec m ow (SetTable.turns m) n _ _ K (by unfold SetTable.turns; omega) k1 (fun k hk => ?_) ?_, k2, k3⟩
  · exact Option.isNone_eq_false_iff.mpr (Option.isSome_iff_ne_none.mpr (k3 k hk))
  · exact Option.isNone_iff_eq_none.mpr k2
theorem own_more {m : Nat} (hm : GM m) {done : List Int} {ow : Array (Option Nat)} (W : Own m done ow) (hl : done.length ≤ m) (h : Int) :
    ∃ j, SetTable.layClean.free m ow (SetTable.turns m) (SetTable.bits h % (m + 1)) (SetTable.bits h) = some j ∧ Own m (done ++ [h]) (ow.setIfInBounds j (some done.length)) := by
  obtain ⟨ps, lp, ip⟩ := W.ps
  obtain ⟨z, hz, nz⟩ := st_missing ps (m + 1) (by omega)
  obtain ⟨K, e1, e2, e3⟩ := free_at hm ow h (Nat.le_of_lt_succ hz) (Classical.byContradiction fun q => nz (ip z (Nat.le_of_lt_succ hz) q))
  have wm : way m h K ≤ m := way_in
  obtain ⟨j, ej⟩ : ∃ j, way m h K = j := ⟨_, rfl⟩
  rw [ej] at e1 e2 wm
  have new := oAt_set_self (some done.length) (show j < ow.size by rw [W.sz]; omega)
  have old : ∀ i, i ≠ j → oAt (ow.setIfInBounds j (some done.length)) i = oAt ow i := fun i hi => oAt_set_ne _ hi
  have up : ∀ i, oAt ow i ≠ none → oAt (ow.setIfInBounds j (some done.length)) i ≠ none := fun i hi => by
    by_cases c : i = j
    · rw [c, new]; simp
    · rw [old i c]; exact hi
  refine ⟨j, e1, ⟨by rw [Array.size_setIfInBounds, W.sz], fun i k hi e => ?_, fun k hk => ?_, j :: ps, by simp [lp], fun i hi e => ?_⟩⟩
  · by_cases c : i = j
    · rw [c, new] at e
      cases e
      exact ⟨h, K, by simp, by rw [ej, c], fun q hq => up _ (e3 q hq)⟩
    · rw [old i c] at e
      obtain ⟨g, G, a1, a2, a3⟩ := W.at_ i k hi e
      have lt := (List.getElem?_eq_some_iff.mp a1).1
      exact ⟨g, G, by rw [List.getElem?_append_left lt, a1], a2, fun q hq => up _ (a3 q hq)⟩
  · rw [List.length_append, List.length_singleton] at hk
    by_cases c : k < done.length
    · obtain ⟨i, hi, e⟩ := W.all k c
      exact ⟨i, hi, by rw [old i fun q => by rw [q, e2] at e; cases e]; exact e⟩
    · obtain rfl : k = done.length := by omega
      exact ⟨j, wm, new⟩
  · by_cases c : i = j
    · rw [c]; simp
    · rw [old i c] at e
      exact List.mem_cons_of_mem _ (ip i hi e)
theorem own_all {m : Nat} (hm : GM m) : ∀ (rest done : List Int) (ow : Array (Option Nat)), Own m done ow → done.length + rest.length ≤ m →
    ∃ ow', rest.foldl (stepF m) (some (ow, done.length)) = some (ow', (done ++ rest).length) ∧ Own m (done ++ rest) ow'
  | [], done, ow, W, _ => ⟨ow, by rw [List.append_nil]; rfl, by rw [List.append_nil]; exact W⟩
  | h :: rest, done, ow, W, hl => by
    rw [List.length_cons] at hl
    obtain ⟨j, e, W1⟩ := own_more hm W (by omega) h
    obtain ⟨ow', f, W2⟩ := own_all hm rest (done ++ [h]) _ W1 (by rw [List.length_append, List.length_singleton]; omega)
    rw [List.append_assoc, List.length_append, List.length_singleton] at f
    rw [List.append_assoc] at W2
    exact ⟨ow', by rw [List.foldl_cons, stepF_some e]; exact f, W2⟩
theorem laid_anew (t : SetTable) {hs : Array Int} {wanted M : Nat} (hw : SetTable.sizeAbove wanted - 1 = M) (hM : GM M) (hn : hs.size ≤ M) :
    ∃ t' od, t.relaid hs wanted = some (t', od) ∧ od.toList.Perm (List.range hs.size) ∧ TG t' (od.toList.map fun i => hs.getD i 0) ∧ t'.mask = M ∧ t'.led = t.led ∧ t'.plain = t.plain := by
  obtain ⟨ow, f, W⟩ := own_all hM hs.toList [] _ (Own.init M) (by rw [Array.length_toList]; simpa using hn)
  rw [List.nil_append] at f W
  have lay : SetTable.layClean M hs = some ow := by
    rw [layClean_eq]
    exact congrArg (Option.map (·.1)) f
  obtain ⟨lv, elv⟩ : ∃ lv, liveOf M ow = lv := ⟨_, rfl⟩
  have mem : ∀ j k, (j, k) ∈ lv ↔ j ≤ M ∧ oAt ow j = some k := fun j k => by rw [← elv]; exact mem_live W.sz
  have rr := ris_live (fun j => ow.getD j none) (List.range (M + 1)) (show List.Pairwise _ _ from List.pairwise_lt_range)
  have r1 : Ris (lv.map (·.1)) := by rw [← elv]; exact rr.1
  have r2 : ∀ x ∈ lv.map (·.1), x ≤ M := fun x hx => by
    rw [← elv] at hx
    exact Nat.le_of_lt_succ (List.mem_range.mp (rr.2 x hx))
  have onto : ∀ k, k < hs.size → k ∈ lv.map (·.2) := fun k hk => by
    obtain ⟨j, b1, b2⟩ := W.all k (by rw [Array.length_toList]; exact hk)
    exact List.mem_map.mpr ⟨(j, k), (mem j k).mpr ⟨b1, b2⟩, rfl⟩
  have ll : lv.length = hs.size := by
    obtain ⟨ps, p1, p2⟩ := W.ps
    rw [Array.length_toList] at p1
    have a := nat_nodup_len (lv.map fun q : Nat × Nat => q.1) ps (show List.Pairwise _ _ from List.Pairwise.imp (fun h => Nat.ne_of_lt h) r1) fun x hx => by
      obtain ⟨⟨y, k⟩, hq, rfl⟩ := List.mem_map.mp hx
      obtain ⟨b1, b2⟩ := (mem y k).mp hq
      exact p2 y b1 (by rw [b2]; simp)
    have b := nat_nodup_len (List.range hs.size) (lv.map (·.2)) List.nodup_range fun k hk => onto k (List.mem_range.mp hk)
    rw [List.length_map] at a
    rw [List.length_map, List.length_range] at b
    have p3 : ps.length = hs.size := p1
    exact Nat.le_antisymm (by rw [← p3]; exact a) b
  refine ⟨tabOf t M ow, (lv.map (·.2)).toArray, ?_, ?_, ?_, rfl, rfl, rfl⟩
  · rw [relaid_eq, hw, lay, ← elv]
    rfl
  · exact perm_range hs.size (lv.map (·.2)) (by rw [List.length_map, ll]) onto
  · have pl : (tabOf t M ow).place.toList = lv.map (·.1) := by rw [← elv]; rfl
    refine ⟨by rw [pl]; exact r1, rfl, by rw [pl]; simp, hM, fun x hx => by rw [pl] at hx; exact r2 x hx, fun i h j a b => ?_⟩
    rw [pl] at b ⊢
    show ∃ k, way M h k = j ∧ _
    rw [List.getElem?_map] at b
    obtain ⟨⟨y, k⟩, hq, rfl⟩ := Option.map_eq_some_iff.mp b
    have a : ((lv.map (·.2)).map fun i => hs.getD i 0)[i]? = some h := a
    rw [List.getElem?_map, List.getElem?_map, hq] at a
    have eh : hs.getD k 0 = h := Option.some.inj a
    obtain ⟨b1, b2⟩ := (mem y k).mp (List.mem_of_getElem? hq)
    obtain ⟨g, G, c1, c2, c3⟩ := W.at_ y k b1 b2
    have eg : g = h := by
      rw [← eh, Array.getD_eq_getD_getElem?, ← Array.getElem?_toList, c1]
      rfl
    subst eg
    refine ⟨G, c2, fun c hc => ?_⟩
    obtain ⟨k2, e2⟩ := Option.ne_none_iff_exists'.mp (c3 c hc)
    exact List.mem_map.mpr ⟨(way M g c, k2), (mem _ _).mpr ⟨way_in, e2⟩, rfl⟩
/-- where a table is too full, the next one is as large as is needed -/
theorem grow {m n : Nat} (hm : GM m) (h1 : n * 5 < m * 3) (h2 : (n + 1) * 5 ≥ m * 3) (h3 : n < 4000) : ∃ M, SetTable.sizeAbove (SetTable.grown (n + 1)) - 1 = M ∧ GM M ∧ SetTable.sizeAbove (SetTable.grown (n + 1)) ≤ 8192 ∧ (n + 1) * 5 < M * 3 ∧ n + 1 ≤ m := by
  have s1 : SetTable.sizeAbove (SetTable.grown 5) = 32 ∧ SetTable.sizeAbove (SetTable.grown 19) = 128 ∧ SetTable.sizeAbove (SetTable.grown 77) = 512 ∧ SetTable.sizeAbove (SetTable.grown 307) = 2048 ∧ SetTable.sizeAbove (SetTable.grown 1229) = 8192 := by decide +kernel
  obtain ⟨a, b, c, d, e⟩ := s1
  rcases hm with rfl | rfl | rfl | rfl | rfl | rfl
  · obtain rfl : n = 4 := by omega
    exact ⟨31, by rw [a], .inr (.inl rfl), by rw [a]; decide, by decide, by decide⟩
  · obtain rfl : n = 18 := by omega
    exact ⟨127, by rw [b], .inr (.inr (.inl rfl)), by rw [b]; decide, by decide, by decide⟩
  · obtain rfl : n = 76 := by omega
    exact ⟨511, by rw [c], .inr (.inr (.inr (.inl rfl))), by rw [c]; decide, by decide, by decide⟩
  · obtain rfl : n = 306 := by omega
    exact ⟨2047, by rw [d], .inr (.inr (.inr (.inr (.inl rfl)))), by rw [d]; decide, by decide, by decide⟩
  · obtain rfl : n = 1228 := by omega
    exact ⟨8191, by rw [e], .inr (.inr (.inr (.inr (.inr rfl)))), by rw [e]; decide, by decide, by decide⟩
  · omega
/-! ## the set in the heap -/
section
variable {P : Program} {w : World} {A : Around} {E : Value → Shared → Prop} {s : Shared}
structure SG (P : Program) (w : World) (h : Heap) (c : Addr) (L : List (Addr × List Int)) (es : Array (Int × Value)) (ep : Nat) (t : SetTable) : Prop where
  ob : ∃ o, h.get? c = some o ∧ o.ExactSet ∧ o.data = .set es ep t
  rw_ : es.toList = rowsOf P w L
  tg : TG t (L.map fun p => thash P w p.2)
  nd : (L.map (·.2)).Nodup
  tu : ∀ p ∈ L, IsT P w h p.2 p.1
  pl : t.plain = true
  ld : w.params.followText "set-order" = true ∨ t.led = true
  ro : L.length * 5 < t.mask * 3
  fe : L.length < 4000
variable {c : Addr} {L : List (Addr × List Int)} {es : Array (Int × Value)} {ep : Nat} {t : SetTable}
theorem rows_len {es : Array (Int × Value)} (h : es.toList = rowsOf P w L) : es.size = L.length := by
  rw [← Array.length_toList, h]
  exact List.length_map _
theorem SG.lenE (R : SG P w s.heap c L es ep t) : es.size = L.length := rows_len R.rw_
theorem TG.fits_ {hs : List Int} (T : TG t hs) {n : Nat} (h : hs.length = n) (h2 : n ≤ t.mask) : t.fits n = true := by
  have q := T.si
  rw [Array.length_toList] at q
  unfold SetTable.fits SetTable.fill
  rw [T.du, Bool.and_eq_true, beq_iff_eq, decide_eq_true_eq]
  exact ⟨q.trans h, by show t.place.size + 0 ≤ _; omega⟩
theorem SG.fi (R : SG P w s.heap c L es ep t) : t.fits es.size = true := R.tg.fits_ (by rw [List.length_map, R.lenE]) (by have := R.ro; have := R.lenE; omega)
theorem SG.ent (R : SG P w s.heap c L es ep t) {i : Nat} {p : Addr × List Int} (h : L[i]? = some p) : es[i]? = some (thash P w p.2, Value.ref p.1) := by
  rw [← Array.getElem?_toList, R.rw_]
  unfold rowsOf
  rw [List.getElem?_map, h]
  rfl
theorem no_dummy (m : Nat) : ∀ (n : Nat) (p : SetTable.Probe), p.dummy = none → (nth m p n).dummy = none
  | 0, _, h => h
  | n + 1, p, h => no_dummy m n (adv m p) (by unfold adv; split <;> exact h)
/-- the search from a step of the way on -/
theorem find_from (R : SG P w s.heap c L es ep t) {x : Addr} {k : List Int} (hx : IsT P w s.heap k x) (hu : A.units < cLine) {h0 : Int} (eh : thash P w k = h0) {W : Nat → Nat} (eW : W = way t.mask h0) {K : Nat} (hKf : K < 10 * SetTable.turns t.mask)
    (hK : W K ∉ t.place.toList) (hKb : ∀ q, q < K → W q ∈ t.place.toList) {Q : SetFound → Shared → Prop}
    (hin : k ∈ L.map (·.2) → Q (.there none) s) (hout : k ∉ L.map (·.2) → Q (.free (W K) false) s) {pr : Nat → SetTable.Probe} (ep_ : pr = nth t.mask (runAt t.mask (SetTable.bits h0 % (t.mask + 1)) (SetTable.bits h0))) :
    ∀ (f b : Nat) (stand : Option SetTable.Probe), stand.getD (t.probeStart h0) = pr b → b ≤ K → K - b < f →
      (∀ (i : Nat) p, L[i]? = some p → p.2 = k → ∃ d, b ≤ d ∧ d < K ∧ t.place.toList[i]? = some (W d)) →
      wpAny (model P w) A (setSearchFrom c (.ref x) h0 true f stand) Q E s
  | 0, _, _, _, _, hf, _ => absurd hf (Nat.not_lt_zero _)
  | f + 1, b, stand, hst, hb, hf, hre => by
    obtain ⟨o, ho, hex, hd⟩ := R.ob
    have fi := R.fi
    have pw : ∀ q, (pr q).j = W q := fun q => by rw [ep_, eW]
    have step : ∀ q, nth t.mask (pr b) q = pr (b + q) := fun q => by rw [ep_, ← nth_add]
    have stepW : ∀ q, (nth t.mask (pr b) q).j = W (b + q) := fun q => by rw [step, pw]
    have hashOf : ∀ (i : Nat) p, L[i]? = some p → ((es[i]?.map (·.1)).getD 0) = thash P w p.2 := fun i p hp => by rw [R.ent hp]; rfl
    rw [setSearchFrom_succ]
    refine wpAny_bind (wpAny_setState_of ho hd fi ?_)
    dsimp only
    refine wp_if_neg (by unfold SetTable.gaveWay; rw [R.tg.gm.odd]; decide) ?_
    try refine wpAny_bind (wpAny_pure ?_)
    have spec := go_spec t R.tg.ri R.tg.du (fun i => (es[i]?.map (·.1)).getD 0) h0 (10 * SetTable.turns t.mask) (K - b) (pr b) (by rw [ep_]; exact no_dummy _ _ _ rfl) (by omega)
      (fun q hq => by rw [stepW]; exact hKb _ (by omega)) (by rw [stepW, show b + (K - b) = K by omega]; exact hK)
    rcases spec with ⟨q, i, hq, hi, hh, hno, hpr⟩ | ⟨hno, hpr⟩
    · have hpr' : t.probe (fun i => (es[i]?.map (·.1)).getD 0) h0 (stand.getD (t.probeStart h0)) = some (.candidate (W (b + q)) i (pr (b + (q + 1)))) := by
        rw [hst, ← stepW, ← step]
        exact hpr
      rw [hpr']
      dsimp only
      rw [stepW] at hi
      have iL : i < L.length := by
        have a := (List.getElem?_eq_some_iff.mp hi).1
        have q := R.tg.si
        rw [List.length_map] at q
        omega
      obtain ⟨p, hp⟩ : ∃ p, L[i]? = some p := ⟨_, List.getElem?_eq_getElem iL⟩
      have pin := List.mem_of_getElem? hp
      have slot := slot_live R.tg.ri hi
      have rest : wpAny (model P w) A (searchRest c (.ref x) h0 true f es t (W (b + q)) i (pr (b + (q + 1)))) Q E s := by
        unfold searchRest
        rw [R.ent hp]
        dsimp only
        refine wpAny_bind (wpAny_holding (wpAny_eqBool_tuple hu (R.tu p pin) hx ?_))
        refine wpAny_bind (wpAny_setState_of ho hd fi ?_)
        dsimp only
        by_cases same : p.2 = k
        · exact wp_if_pos (by simp [same]) (wpAny_pure (hin (List.mem_map.mpr ⟨p, pin, same⟩)))
        · refine wp_if_neg (by simp [same]) ?_
          try refine wpAny_bind (wpAny_pure ?_)
          rw [sameMem]
          dsimp only
          simp only [if_true, slot, R.ent hp]
          refine wpAny_bind (wpAny_isSame_ref_self (wpAny_bind (wpAny_pure ?_)))
          simp only [if_true]
          refine wp_if_neg (by simp [same]) ?_
          refine find_from R hx hu eh eW hKf hK hKb hin hout ep_ f (b + (q + 1)) _ rfl (by omega) (by omega) fun i1 p1 l1 k1 => ?_
          obtain ⟨d, d1, d2, d3⟩ := hre i1 p1 l1 k1
          refine ⟨d, Classical.byContradiction fun lt => ?_, d2, d3⟩
          by_cases dq : d = b + q
          · rw [dq] at d3
            have s2 := slot_live R.tg.ri d3
            rw [slot] at s2
            cases s2
            rw [hp] at l1
            cases l1
            exact same k1
          · refine hno (d - b) i1 (by omega) (by rw [stepW, show b + (d - b) = d by omega]; exact d3) ?_
            show (es[i1]?.map (·.1)).getD 0 = h0
            rw [hashOf i1 p1 l1, k1, eh]
      by_cases hl : t.led = true
      · refine wp_if_neg (by simp [hl]) ?_
        try refine wpAny_bind (wpAny_pure ?_)
        exact rest
      · refine wp_if_pos (by simp [hl]) (wpAny_bind (seen_tup hx (fun y hy => ?_) ?_))
        · obtain ⟨e, he, rfl⟩ := List.mem_map.mp hy
          have e0 : e ∈ es ∧ e.1 = h0 := by simpa using he
          have e1 : e ∈ es.toList := by simpa using e0.1
          rw [R.rw_] at e1
          obtain ⟨p2, hp2, rfl⟩ := List.mem_map.mp e1
          exact ⟨p2.2, p2.1, rfl, R.tu p2 hp2⟩
        · refine wp_if_neg (by decide) ?_
          try refine wpAny_bind (wpAny_pure ?_)
          exact rest
    · have hpr' : t.probe (fun i => (es[i]?.map (·.1)).getD 0) h0 (stand.getD (t.probeStart h0)) = some (.empty (W K) none) := by
        have : W K = (nth t.mask (pr b) (K - b)).j := by rw [stepW, show b + (K - b) = K by omega]
        rw [hst, this]
        exact hpr
      rw [hpr']
      dsimp only
      refine wpAny_pure (hout fun hm => ?_)
      obtain ⟨p1, m1, k1⟩ := List.mem_map.mp hm
      obtain ⟨i1, l1⟩ := List.mem_iff_getElem?.mp m1
      obtain ⟨d, d1, d2, d3⟩ := hre i1 p1 l1 k1
      refine hno (d - b) i1 (by omega) (by rw [stepW, show b + (d - b) = d by omega]; exact d3) ?_
      show (es[i1]?.map (·.1)).getD 0 = h0
      rw [hashOf i1 p1 l1, k1, eh]
theorem find_at (R : SG P w s.heap c L es ep t) {x : Addr} {k : List Int} (hx : IsT P w s.heap k x) (hu : A.units < cLine) {Q : SetFound → Shared → Prop} (hin : k ∈ L.map (·.2) → Q (.there none) s)
    (hout : ∀ K, k ∉ L.map (·.2) → way t.mask (thash P w k) K ∉ t.place.toList → (∀ q, q < K → way t.mask (thash P w k) q ∈ t.place.toList) → Q (.free (way t.mask (thash P w k) K) false) s) :
    wpAny (model P w) A (setSearch c (.ref x) (thash P w k) true) Q E s := by
  have ro := R.ro
  obtain ⟨K, hKf, hK, hKb⟩ := R.tg.hole (by rw [List.length_map]; omega) (thash P w k)
  have := R.tg.gm.le
  refine find_from R hx hu rfl rfl hKf hK hKb hin (fun hn => hout K hn hK hKb) rfl 100000 0 none rfl (Nat.zero_le _) (by omega) fun i p hp hk => ?_
  have hi : (L.map fun p => thash P w p.2)[i]? = some (thash P w k) := by rw [List.getElem?_map, hp, ← hk]; rfl
  have lt : i < t.place.toList.length := by
    rw [R.tg.si]
    exact (List.getElem?_eq_some_iff.mp hi).1
  obtain ⟨d, hd, e⟩ := R.tg.ahead hK hi (List.getElem?_eq_getElem lt)
  exact ⟨d, Nat.zero_le _, hd, by rw [e]; exact List.getElem?_eq_getElem lt⟩
/-- laid anew in the heap -/
theorem anew_at {o : Obj} (ho : s.heap.get? c = some o) (hex : o.ExactSet) (hd : o.data = .set es ep t) (hr : es.toList = rowsOf P w L) {hs : List Int} (T : TG t hs) (hl : hs.length = L.length) (lm : L.length ≤ t.mask)
    (nd : (L.map (·.2)).Nodup) (tu : ∀ p ∈ L, IsT P w s.heap p.2 p.1) (pl : t.plain = true) (ld : w.params.followText "set-order" = true ∨ t.led = true) (fe : L.length < 4000) {wanted M : Nat}
    (hw : SetTable.sizeAbove wanted - 1 = M) (hM : GM M) (hw2 : SetTable.sizeAbove wanted ≤ 8192) (hn : L.length * 5 < M * 3) {Q : Unit → Shared → Prop}
    (hQ : ∀ h' L' es' ep' t', Heap.SameBut c s.heap h' → SG P w h' c L' es' ep' t' → L'.Perm L → Q () { s with heap := h' }) : wpAny (model P w) A (setRelay c wanted) Q E s := by
  have el := rows_len hr
  obtain ⟨t', od, e, hp, T', em, el', epl⟩ := laid_anew t (hs := es.map (·.1)) (wanted := wanted) hw hM (by rw [Array.size_map, el]; omega)
  rw [Array.size_map, el] at hp
  obtain ⟨L2, r1, r2, r3⟩ := order_rows L es od hr hp
  rw [← r3] at T'
  have l2 : (od.filterMap (es[·]?)).size = L.length := by rw [rows_len r1, r2.length_eq]
  rw [setRelay_eq]
  refine wpAny_bind (wpAny_setState_of ho hd (T.fits_ (by rw [hl, el]) (by omega)) ?_)
  dsimp only
  refine wp_if_neg (by rw [sizeLine_eq]; omega) ?_
  try refine wpAny_bind (wpAny_pure ?_)
  rw [e]
  dsimp only
  refine wpAny_bind (wp_if_neg (by rw [l2, el]; simp) ?_)
  try refine wpAny_bind (wpAny_pure ?_)
  refine wpAny_pure ?_
  dsimp only
  refine wpAny_storeSet_of ho hd ?_ (by rw [l2, sizeLine_eq]; omega)
  have sb : Heap.SameBut c s.heap (s.heap.update c (Obj.putSet (od.filterMap (es[·]?)) t')) := Heap.SameBut.update ..
  refine hQ _ L2 _ (ep + 1) t' sb ⟨⟨_, store_at ho hd, ⟨hex.1, hex.2.1, hex.2.2⟩, rfl⟩, r1, T', (r2.map _).nodup_iff.mpr nd, fun p hp => isT_same (tu p (r2.mem_iff.mp hp)) ho hd sb, by rw [epl]; exact pl, by rw [el']; exact ld, by rw [r2.length_eq, em]; exact hn, by rw [r2.length_eq]; exact fe⟩ r2
/-- one added -/
theorem put_at (R : SG P w s.heap c L es ep t) {x : Addr} {k : List Int} (hx : IsT P w s.heap k x) (hu : A.units < cLine) (fe : L.length + 1 < 4000) {Q : Bool → Shared → Prop}
    (hQ : ∀ b h' L' es' ep' t', Heap.SameBut c s.heap h' → SG P w h' c L' es' ep' t' → (k ∈ L.map (·.2) → L' = L) → (k ∉ L.map (·.2) → L'.Perm ((x, k) :: L)) → Q b { s with heap := h' }) :
    wpAny (model P w) A (setAddHashed c (.ref x) (thash P w k)) Q E s := by
  obtain ⟨o, ho, hex, hd⟩ := R.ob
  have el := R.lenE
  have ro := R.ro
  unfold setAddHashed
  refine wpAny_holding ?_
  rw [show (100000 : Nat) = 99999 + 1 from rfl, setAddHashedIn_succ]
  refine wpAny_bind (wpAny_setState_of ho hd R.fi ?_)
  dsimp only
  refine wp_if_neg (by simp [byScan, Value.scannable]) ?_
  try refine wpAny_bind (wpAny_pure ?_)
  refine wpAny_bind (find_at R hx hu (fun hm => wpAny_pure (hQ false s.heap L es ep t (Heap.SameBut.refl c s.heap) R (fun _ => rfl) fun z => absurd hm z)) fun K hm hK hb => ?_)
  dsimp only
  refine wpAny_bind (wpAny_setState_of ho hd R.fi ?_)
  dsimp only
  obtain ⟨p, q1, q2, q3, q4⟩ := R.tg.more hK hb
  have facts : (t.put (way t.mask (thash P w k) K)).1.mask = t.mask ∧ (t.put (way t.mask (thash P w k) K)).1.led = t.led ∧ (t.put (way t.mask (thash P w k) K)).1.plain = t.plain := ⟨rfl, rfl, rfl⟩
  obtain ⟨f1, f2, f3⟩ := facts
  rw [List.length_map] at q2 q4
  generalize t.put (way t.mask (thash P w k) K) = pt at q1 q3 q4 f1 f2 f3 ⊢
  obtain ⟨t1, p1⟩ := pt
  dsimp only at q1 q3 q4 f1 f2 f3 ⊢
  subst q1
  have pl1 : t1.plain = true := by rw [f3]; exact R.pl
  first
    | refine wpAny_bind (wp_if_pos pl1 (hashBy_tup hx ?_))
    | refine wp_if_pos pl1 (wpAny_bind (hashBy_tup hx ?_))
  simp only [if_true]
  have pm := put_perm L p1 (x, k)
  have in1 : (SetTable.insertAt es p1 (thash P w k, Value.ref x)).toList = rowsOf P w (L.take p1 ++ (x, k) :: L.drop p1) := by rw [SetTable.toList_insertAt, rows_put, R.rw_]
  have hh : (L.take p1 ++ (x, k) :: L.drop p1).map (fun p => thash P w p.2) = (L.map fun p => thash P w p.2).take p1 ++ thash P w k :: (L.map fun p => thash P w p.2).drop p1 := by simp [List.map_take, List.map_drop]
  rw [← hh] at q3
  generalize SetTable.insertAt es p1 (thash P w k, Value.ref x) = es1 at in1 ⊢
  generalize L.take p1 ++ (x, k) :: L.drop p1 = L1 at pm q3 in1
  have l1 : L1.length = L.length + 1 := pm.length_eq
  have le1 : es1.size = L.length + 1 := (rows_len in1).trans l1
  have nd1 : (L1.map (·.2)).Nodup := (pm.map (·.2)).nodup_iff.mpr (List.nodup_cons.mpr ⟨hm, R.nd⟩)
  refine wpAny_bind (wpAny_storeSet_of ho hd ?_ (by rw [le1, sizeLine_eq]; omega))
  have sb : Heap.SameBut c s.heap (s.heap.update c (Obj.putSet es1 t1)) := Heap.SameBut.update ..
  have ho1 := store_at (es' := es1) (t' := t1) ho hd
  generalize s.heap.update c (Obj.putSet es1 t1) = h1 at sb ho1 ⊢
  have tu1 : ∀ p ∈ L1, IsT P w h1 p.2 p.1 := fun p hp => by
    rcases List.mem_cons.mp (pm.mem_iff.mp hp) with rfl | hp
    · exact isT_same hx ho hd sb
    · exact isT_same (R.tu p hp) ho hd sb
  have ld1 : w.params.followText "set-order" = true ∨ t1.led = true := by rw [f2]; exact R.ld
  have full : t1.tooFull = decide ((L.length + 1) * 5 ≥ t.mask * 3) := by unfold SetTable.tooFull; rw [q4, f1]
  by_cases hf : (L.length + 1) * 5 ≥ t.mask * 3
  · rw [decide_eq_true hf] at full
    first
      | refine wpAny_bind (wp_if_pos (by simp [full]) ?_)
      | (refine wp_if_pos (by simp [full]) ?_; refine wpAny_bind ?_)
    rw [el]
    obtain ⟨M, g1, g2, g3, g4, g5⟩ := grow R.tg.gm ro hf (by omega)
    refine anew_at (s := { s with heap := h1 }) ho1 ⟨hex.1, hex.2.1, hex.2.2⟩ rfl in1 q3 (List.length_map _) (by rw [l1, f1]; exact g5) nd1 tu1 pl1 ld1 (by rw [l1]; exact fe) g1 g2 g3 (by rw [l1]; exact g4) fun h2 L2 es2 ep2 t2 sb2 R2 pm2 => ?_
    exact wpAny_pure (hQ true h2 L2 es2 ep2 t2 (sb.trans sb2) R2 (fun z => absurd z hm) fun _ => pm2.trans pm)
  · rw [decide_eq_false hf] at full
    first
      | refine wp_if_neg (by simp [full]) ?_
      | (refine wpAny_bind (wp_if_neg (by simp [full]) (wpAny_pure ?_)))
    exact wpAny_pure (hQ true h1 L1 es1 (ep + 1) t1 sb ⟨⟨_, ho1, ⟨hex.1, hex.2.1, hex.2.2⟩, rfl⟩, in1, q3, nd1, tu1, pl1, ld1, by rw [l1, f1]; omega, by rw [l1]; exact fe⟩ (fun z => absurd z hm) fun _ => pm)
/-! ## set(xs) -/
/-- a set as it is made -/
def ob0 (w : World) : Obj := { cls := .type "set", dict := none, data := .set #[] 0 (.fresh 0 0 (!w.params.followText "set-order")) }
theorem SG.keep {h h' : Heap} (R : SG P w h c L es ep t) (ha : ∀ o, h.get? c = some o → h'.get? c = some o) (ht : ∀ p ∈ L, IsT P w h' p.2 p.1) : SG P w h' c L es ep t := by
  obtain ⟨o, ho, r⟩ := R.ob
  exact { R with ob := ⟨o, ha o ho, r⟩, tu := ht }
theorem sg0 {h : Heap} (ho : h.get? c = some (ob0 w)) : SG P w h c [] #[] 0 (.fresh 0 0 (!w.params.followText "set-order")) where
  ob := ⟨_, ho, ⟨rfl, rfl, rfl⟩, rfl⟩
  rw_ := rfl
  tg := ⟨List.Pairwise.nil, rfl, rfl, .inl rfl, fun x hx => (by cases hx), fun i h j hi => (by simp at hi)⟩
  nd := List.nodup_nil
  tu := fun p hp => (by cases hp)
  pl := rfl
  ld := by
    show _ ∨ (!w.params.followText "set-order") = true
    cases w.params.followText "set-order" <;> simp
  ro := by show 0 * 5 < 7 * 3; decide
  fe := by show 0 < 4000; decide
theorem upd_loop {I : Addr} {fp wr : List Addr} {G : Array GenState → Array GenState → Prop} {n : Nat} {Pv : Nat → Value → Prop} {St : Nat → Shared → Prop} {R : Result → Shared → Prop}
    (W : WalksS P w A.in1 I fp wr G n Pv St) (S : Addr) (hSf : S ∉ fp) (ks : List (Addr × List Int)) (hn : n = ks.length) (fe : ks.length < 4000) (hval : ∀ i v, Pv i v → ∃ p, ks[i]? = some p ∧ v = .ref p.1)
    (h0 : Heap) (hk : ∀ p ∈ ks, IsT P w h0 p.2 p.1) (hS0 : h0.get? S = none) (hw0 : ∀ b ∈ wr, h0.get? b = none) (hu : A.in1.units < cLine) :
    ∀ (k i : Nat) (s : Shared), n - i = k → i ≤ n → St i s → (∀ b o, h0.get? b = some o → s.heap.get? b = some o) → (∃ L es ep t, SG P w s.heap S L es ep t ∧ Got ks i L) →
      (∀ s' L es ep t, Moved (S :: wr) G s s' → SG P w s'.heap S L es ep t → Got ks n L → (∀ b o, h0.get? b = some o → s'.heap.get? b = some o) → R (.ok (.ret .none)) s') →
      codeAny (model P w) A (.builtin "set.update.loop" ⟨[.ref S, .ref I], []⟩) R s := by
  have Sw : S ∉ wr := fun h => hSf (W.sub _ h)
  have sub : ∀ b ∈ wr, b ∈ S :: wr := fun b hb => List.mem_cons_of_mem _ hb
  have still : ∀ {s s' : Shared}, Moved wr G s s' → (∀ b o, h0.get? b = some o → s.heap.get? b = some o) → ∀ b o, h0.get? b = some o → s'.heap.get? b = some o := fun m k b o e => m.heap b o (fun z => by rw [hw0 b z] at e; cases e) (k b o e)
  intro k
  induction k with
  | zero =>
    intro i s hk' hi hst hkp ⟨L, es, ep, t, hS, g⟩ hR
    obtain rfl : i = n := by omega
    refine codeAny_builtin F.entry_set_update_loop ?_
    rw [Around.under_plainId F.plain_set_update_loop _]
    show wpAny _ A.in1 (pyNext (.ref I) >>= _) _ _ s
    refine wpAny_bind (W.done s _ _ hst fun s' hm => ?_)
    have hkp' := still hm hkp
    have R' := hS.keep (h' := s'.heap) (fun o e => hm.heap S o Sw e) fun p hp => isT_keep (hk p (List.mem_of_mem_take (g.sub p hp))) hkp'
    exact wpAny_pure (hR s' L es ep t (hm.mono sub) R' g hkp')
  | succ k ih =>
    intro i s hk' hi hst hkp ⟨L, es, ep, t, hS, g⟩ hR
    refine codeAny_builtin F.entry_set_update_loop ?_
    rw [Around.under_plainId F.plain_set_update_loop _]
    show wpAny _ A.in1 (pyNext (.ref I) >>= _) _ _ s
    refine wpAny_bind (W.item i s _ _ (by omega) hst fun v s' hP hst' hm => ?_)
    obtain ⟨p, hp, rfl⟩ := hval i v hP
    have hkp' := still hm hkp
    have R' := hS.keep (h' := s'.heap) (fun o e => hm.heap S o Sw e) fun q hq => isT_keep (hk q (List.mem_of_mem_take (g.sub q hq))) hkp'
    have hx : IsT P w s'.heap p.2 p.1 := isT_keep (hk p (List.mem_of_getElem? hp)) hkp'
    show wpAny _ A.in1 (holding [Value.ref p.1] (setAdd S (.ref p.1)) >>= _) _ _ s'
    refine wpAny_bind (wpAny_holding ?_)
    unfold setAdd
    refine wpAny_holding (wpAny_bind (wpAny_pyHash_tuple hu hx ?_))
    refine put_at (s := { s' with toks := s'.toks + (p.2.length + 1) }) R' hx hu (by have := g.len; omega) fun b h' L' es' ep' t' sb R2 c1 c2 => ?_
    have g' : Got ks (i + 1) L' := by
      by_cases c : p.2 ∈ L.map (·.2)
      · rw [c1 c]; exact g.same hp c
      · exact g.more hp (c2 c)
    have hkp2 : ∀ b o, h0.get? b = some o → h'.get? b = some o := fun b o e => (sb.2 b (fun z => by rw [z, hS0] at e; cases e)).trans (hkp' b o e)
    refine wpAny_pure ⟨plainId_quiet F.plain_set_update_loop _, ih (i + 1) _ (by omega) (by omega) (W.frame _ s' _ _ hst' (Nat.le_add_right _ _) fun b hb o e => ?_) hkp2 ⟨L', es', ep', t', R2, g'⟩ fun s2 L2 es2 ep2 t2 m2 R3 g2 k2 => ?_⟩
    · rw [sb.2 b fun z => hSf (z ▸ hb)]; exact e
    · refine hR s2 L2 es2 ep2 t2 (Moved.trans W.gtrans ((hm.mono sub).then_heap (Nat.le_add_right _ _) fun b o hb e => ?_) m2) R3 g2 k2
      rw [sb.2 b fun z => hb (by rw [z]; simp)]; exact e
theorem call_set {l : Addr} {items : Array Value} (ks : List (Addr × List Int)) {Q : Value → Shared → Prop} (hh : A.handled = none) (hl : s.heap.IsList l items) (hit : items.toList = ks.map fun p => Value.ref p.1)
    (hk : ∀ p ∈ ks, IsT P w s.heap p.2 p.1) (fe : ks.length < 4000) (hu : A.units + 3 < cLine)
    (h : ∀ (h' : Heap) (tk : Nat) L es ep t, SG P w h' s.heap.objs.size L es ep t → Got ks ks.length L → (∀ b o, s.heap.get? b = some o → h'.get? b = some o) → Q (.ref s.heap.objs.size) { s with heap := h', toks := tk }) :
    wpAny (model P w) A (call (.type "set") [.ref l]) Q E s := by
  have isz : items.size = ks.length := by rw [← Array.length_toList, hit, List.length_map]
  obtain ⟨_, tl, hmro⟩ := F.called_set.mro
  have hmade := F.called_set.made
  have hsub := F.called_set.sub
  refine wpAny_call (codeAny_of_tree ?_)
  show wpAny _ _ (callAny (.type "set") _) _ _ _
  refine wpAny_pure ⟨Code.quiet_builtin _ (by decide +kernel), codeAny_builtin F.entry_type_call ?_⟩
  rw [Around.under_plain (weight_type_call_type "set" [.ref l] []) rfl]
  have h1 := F.called_set.notType
  have h2 := F.called_set.canCreate
  have hct := F.typeCall_set_1 (.ref l)
  repeat (any_goals (first | assumption | wp_step))
  refine codeAny_mono (code_set_led1 (.ref l) (E := E) (Q₁ := fun obj s₁ => obj = .ref s.heap.objs.size ∧ s₁ = { s with heap := s.heap.push (ob0 w) }) ⟨rfl, rfl⟩) fun r s₁ hr => ?_
  cases r with
  | error e => exact hr
  | ok fl =>
    cases fl with
    | ret obj =>
      obtain ⟨rfl, rfl⟩ := hr
      have hS : (s.heap.push (ob0 w)).get? s.heap.objs.size = some (ob0 w) := Heap.get?_push_size _ rfl
      have hT : Shared.TypeIs { s with heap := s.heap.push (ob0 w) } (.ref s.heap.objs.size) "set" := ⟨_, hS, rfl⟩
      have hli := F.called_set.init.lookup
      have hbi := F.called_set.init.bind (.ref s.heap.objs.size)
      repeat (any_goals (first | assumption | wp_step))
      refine codeAny_mono (codeAny_call_builtin (R := wants (fun r s₂ => r = .none ∧ ∃ h' tk L es ep t, s₂ = { s with heap := h', toks := tk } ∧ SG P w h' s.heap.objs.size L es ep t ∧ Got ks ks.length L ∧
          (∀ b o, s.heap.get? b = some o → h'.get? b = some o)) E) F.called_set.init.plain F.entry_set_init (check_set_init_1 hT ?_)) fun r₂ s₂ hr₂ => ?_
      · obtain ⟨ol, hol, hcl, nl, hdl⟩ := hl
        obtain ⟨ocls, odict, odata, oslots⟩ := ol
        simp only at hcl hdl
        subst hcl hdl
        have hol' : (s.heap.push (ob0 w)).get? l = some { cls := .type "list", dict := odict, data := .seq items nl, slots := oslots } := Heap.get?_push_of_some _ hol
        have hsls := F.sub_list_set
        have hslf := F.sub_list_frozenset
        have hne : (Value.type "list" == Value.type "dict") = false := by decide
        have hl1 : (s.heap.push (ob0 w)).IsList l items := ⟨_, hol', rfl, nl, rfl⟩
        unfold Builtin.«set.__init__» noKeywords Builtin.Frozenset.updateFrom
        generalize hPI : pyIter = PI
        wp_walk
        subst hPI
        refine wpAny_pyIter_list hl1 (wpAny_bind (wpAny_runValue ?_))
        have lS : l < s.heap.objs.size := Heap.lt_size hol
        have zS : (s.heap.push (ob0 w)).objs.size = s.heap.objs.size + 1 := Heap.size_push _ _
        have none_of : ∀ b, s.heap.objs.size ≤ b → s.heap.get? b = none := fun b hb => by
          cases q : s.heap.get? b with
          | none => rfl
          | some o => exact absurd (Nat.lt_of_lt_of_le (Heap.lt_size q) hb) (Nat.lt_irrefl _)
        refine upd_loop ((Walks.list (show A.in1.in1.in1.handled = none by simp [hh]) (s.heap.push (ob0 w)).objs.size l (by rw [zS]; exact Nat.ne_of_lt (Nat.lt_succ_of_lt lS)) items).toS) s.heap.objs.size (by
          rw [zS]
          simp only [List.mem_cons, List.not_mem_nil, or_false, not_or]
          exact ⟨Nat.ne_of_lt (Nat.lt_succ_self _), Nat.ne_of_gt lS⟩) ks isz fe (fun i v hv => ?_) s.heap hk (none_of _ (Nat.le_refl _))
          (fun b hb => none_of b (by rw [List.mem_singleton.mp hb, zS]; exact Nat.le_succ _)) hu (items.size - 0) 0 _ (by omega) (Nat.zero_le _) ⟨⟨_, Heap.get?_push_size _ rfl, rfl, rfl⟩, hl1.push _⟩ (fun b o e => Heap.get?_push_of_some _ (Heap.get?_push_of_some _ e)) ?_ ?_
        · have q : items.toList[i]? = some v := by rw [Array.getElem?_toList]; exact hv
          rw [hit, List.getElem?_map] at q
          obtain ⟨p, hp, e⟩ := Option.map_eq_some_iff.mp q
          exact ⟨p, hp, e.symm⟩
        · exact ⟨[], #[], 0, _, sg0 (Heap.get?_push_of_some _ hS), Got.zero ks⟩
        · intro s' L es ep t hm R' g' hkp
          obtain ⟨h', g2, d', tk', os'⟩ := s'
          obtain rfl : g2 = s.gens := hm.gens
          obtain rfl : d' = s.drawn := hm.drawn
          obtain rfl : os' = s.os := hm.os
          rw [isz] at g'
          show wpAny _ _ _ _ _ _
          refine wpAny_pure ?_
          show wpAny _ _ (ret Value.none) _ _ _
          exact wpAny_pure ⟨rfl, h', tk', L, es, ep, t, rfl, R', g', hkp⟩
      · cases r₂ with
        | error e => exact hr₂
        | ok fl₂ =>
          cases fl₂ with
          | ret r =>
            obtain ⟨rfl, h', tk, L, es, ep, t, rfl, R', g', hk'⟩ := hr₂
            repeat (any_goals (first | assumption | wp_step))
            exact h _ _ _ _ _ _ R' g' hk'
          | _ => exact hr₂.elim
    | _ => exact hr.elim
end
end Zb
/-! # len(set(xs)), sorted(set(xs)), xs a list of up to some four thousand tuples of ints -/
namespace Zb
open PySem PySem.Spec PyProof.Rows L2 Z
section
variable {P : Program} {w : World} {A : Around} {E : Value → Shared → Prop} {s : Shared} {c : Addr} {L : List (Addr × List Int)} {es : Array (Int × Value)} {ep : Nat} {t : SetTable}
theorem sort_set (R : SG P w s.heap c L es ep t) (hh : A.handled = none) {d : Nat} (h1 : 1 ≤ d) (hd : ∀ p ∈ L, p.2.length = d) {Q : Value → Shared → Prop}
    (hQ : ∀ s' p (out : List Value) (n : Nat), (∀ b o, s.heap.get? b = some o → s'.heap.get? b = some o) → s'.gens = s.gens → s'.os = s.os → s.heap.objs.size ≤ p → s'.heap.get? p = some (seqObj "list" out.toArray n) → out.Perm (L.map fun q => Value.ref q.1) →
      out.Pairwise (fun u v => lexL (TS.intsOf s.heap v) (TS.intsOf s.heap u) = false) → Q (.ref p) s') : wpAny (model P w) A (call (.builtin "sorted") [.ref c]) Q E s := by
  obtain ⟨o, ho, hex, hdt⟩ := R.ob
  have el := R.lenE
  have fe := R.fe
  refine Calls.call_function_entry kind_sorted plain_sorted entry_sorted (args_sorted1 _) ?_
  unfold Builtin.«sorted»
  refine wpAny_bind (m := checkCount "sorted" 1 1 _) (wpAny_pure ?_)
  refine wpAny_bind (collect_set (A := A.in1) hh ⟨o, ho, hex.1, hdt⟩ R.fi (by unfold scanBound; omega) R.tg.ri R.ld fun s1 vs k1 hz g1 o1 pm => ?_)
  have er : es.toList.map (·.2) = L.map fun q => Value.ref q.1 := by
    rw [R.rw_]
    unfold rowsOf
    rw [List.map_map]
    rfl
  rw [er] at pm
  have vl : vs.length < 4000 := by rw [pm.length_eq, List.length_map]; exact fe
  have raw : ∀ v ∈ vs, TS.TupInts s.heap v (TS.intsOf s.heap v) ∧ (TS.intsOf s.heap v).length = d := fun v hv => by
    obtain ⟨p, hp, rfl⟩ := List.mem_map.mp (pm.mem_iff.mp hv)
    have q := tupInts_of (P := P) (w := w) (R.tu p hp)
    rw [q.ints]
    exact ⟨q, hd p hp⟩
  refine wpAny_bind (wpAny_newList ?_ (by rw [sizeLine_eq]; omega))
  have hoL : (s1.heap.push (seqObj "list" vs.toArray 0)).get? s1.heap.objs.size = some (seqObj "list" vs.toArray 0) := Heap.get?_push_size _ rfl
  have keep : ∀ b o, s.heap.get? b = some o → (s1.heap.push (seqObj "list" vs.toArray 0)).get? b = some o := fun b o e => Heap.get?_push_of_some _ (k1 b o e)
  refine wpAny_bind (wpAny_holding (wpAny_call_entry slot_list_sort ⟨_, hoL, rfl⟩ entry_list_sort (SrtO.list_sort_ord (s := { s1 with heap := s1.heap.push (seqObj "list" vs.toArray 0) }) (ltv := fun v u => lexL (TS.intsOf s.heap v) (TS.intsOf s.heap u)) (swoL _) hoL (by rw [sizeLine_eq]; omega) (fun h2 => ?_) fun out a1 a2 => ⟨_, rfl, ?_⟩) (args_list_sort _)))
  · refine tups_sortable (k := TS.intsOf s.heap) h1 (by omega) (fun v hm => ⟨(raw v hm).1.keeps fun c o e _ => keep c o e, (raw v hm).2⟩) fun o e => ?_
    have e' := e.symm.trans hoL
    cases e'
    exact fun c => absurd (Value.type.inj c) (by decide)
  · obtain ⟨n, hn⟩ := PyProof.Rows.sortedHeap_at (out := out.toArray) hoL
    refine wpAny_pure ⟨_, rfl, hQ _ s1.heap.objs.size out n (fun b u e => ?_) g1 o1 hz hn (a2.perm.trans pm) a1⟩
    have lt := Heap.lt_size (k1 b u e)
    show (sortedHeap (s1.heap.push (seqObj "list" vs.toArray 0)) s1.heap.objs.size vs out.toArray).get? b = some u
    rw [sortedHeap_old (Nat.ne_of_lt lt) (by rw [size_push']; exact Nat.lt_succ_of_lt lt)]
    exact keep b u e
end
/-- each key once -/
def SetIs (ks L : List (Addr × List Int)) : Prop := (∀ q ∈ L, q ∈ ks) ∧ (∀ q ∈ ks, q.2 ∈ L.map (·.2)) ∧ (L.map (·.2)).Nodup
def SrtSetK (K : PySem.W.Frag) (Q : VK) (x : V) (H : Hp) : Prop := ∃ (l : Addr) (ks : List (Addr × List Int)) (d : Nat), x = V.ref l ∧ SqL K H l (ks.map fun p => V.ref p.1) ∧ (∀ p ∈ ks, SqT K H p.1 (p.2.map V.int)) ∧ ks.length < 4000 ∧ 1 ≤ d ∧ (∀ p ∈ ks, p.2.length = d) ∧
  ∀ L p, SetIs ks L → L.Pairwise (fun x y => lexL y.2 x.2 = false) → H p = none → Q (.ref p) (upd H p (.lst (L.map fun q => V.ref q.1)))
def tSrtSetB (K : PySem.W.Frag) (ta : TE) : TE := fun σ H Q => ta σ H fun x H1 => SrtSetK K Q x H1
theorem got_is {ks L : List (Addr × List Int)} (g : Got ks ks.length L) (nd : (L.map (·.2)).Nodup) : SetIs ks L := ⟨fun q hq => List.mem_of_mem_take (g.sub q hq), fun q hq => g.all q (by rw [List.take_length]; exact hq), nd⟩
section
variable {X : Cx} {a : Expr} {ta : TE} {p p2 q pos : Pos}
theorem pe_srtSetB (hc : X.calm = true) (hu : X.A.units + 65 < cLine) (hg : Gl X "sorted") (hm : X.mg "sorted" = none) (hg2 : Gl X "set") (hm2 : X.mg "set" = none) (ha : PE X a ta)
    (na : starEach [a] X.env = (false, eval a X.env) :: starEach [] X.env := by rfl) : PE X (.Call (.Name "sorted" p) [.Call (.Name "set" p2) [a] [] q] [] pos) (tSrtSetB X.K ta) := by
  refine ⟨fun pins s σ H Q I h => ?_⟩
  refine Call_ (ld_blt I hg hm (u := .builtin "sorted") (by first | rfl | decide +kernel) ?_)
  refine PyProof.Rows.callWith_builtin1 (PyProof.Rows.args_cons ?_ rfl) rfl rfl
  refine Call_ (ld_blt I hg2 hm2 PyProof.Rows.boot_set ?_)
  refine PyProof.Rows.callWith_type1 (PyProof.Rows.args_cons (thn (ha.run pins s σ H _ I h) fun v s1 ⟨x, H1, I1, r1, q1⟩ => PyProof.Rows.args_nil ?_) na) na rfl
  obtain ⟨l, ks, d, rfl, hq, hk, fe, h1, hd, q1⟩ := q1
  cases r1
  obtain ⟨its, r, pl, hz⟩ := I1.list hq
  refine call_set (P := X.prog) (w := X.w) ks (I1.ok.hd hc) pl.isList (by simpa using refs_of_vals r) (fun p hp => I1.isT (hk p hp)) fe (by omega) fun h' tk L es ep t R g hk' => PyProof.Rows.args_nil ?_
  have gi := got_is g R.nd
  have I2 : Inv X pins σ H1 { s1 with heap := h', toks := tk } := I1.kept fun b o e => hk' b o e
  have R2 : SG X.prog X.w ({ s1 with heap := h', toks := tk } : Shared).heap s1.heap.objs.size L es ep t := R
  generalize ({ s1 with heap := h', toks := tk } : Shared) = s2 at I2 R2 ⊢
  refine sort_set (s := s2) R2 (I1.ok.hd hc) h1 (fun p hp => hd p (gi.1 p hp)) fun s' pn out n kp eg eo hp hget pm pw => ?_
  -- the rows in the order of the values
  have ord : ∀ vs : List Value, (∀ v ∈ vs, ∃ q ∈ L, v = Value.ref q.1) → ∃ L1 : List (Addr × List Int), vs = L1.map (fun q => Value.ref q.1) ∧ ∀ q ∈ L1, q ∈ L := fun vs => by
    induction vs with
    | nil => exact fun _ => ⟨[], rfl, fun q hq => by cases hq⟩
    | cons v vs ih =>
      intro hv
      obtain ⟨q, hq, rfl⟩ := hv v List.mem_cons_self
      obtain ⟨L1, rfl, hs⟩ := ih fun u hu => hv u (List.mem_cons_of_mem _ hu)
      exact ⟨q :: L1, rfl, fun r hr => by rcases List.mem_cons.mp hr with rfl | hr; exact hq; exact hs r hr⟩
  have one : ∀ q ∈ L, ∀ r ∈ L, q.1 = r.1 → q = r := fun q hq r hr e => by
    have a1 := R2.tu q hq
    rw [e] at a1
    exact Prod.ext e (a1.inj (R2.tu r hr))
  have nL : L.Nodup := nodup_of_map R2.nd
  obtain ⟨L', eL, hs⟩ := ord out fun v hv => by
    obtain ⟨q, hq, e⟩ := List.mem_map.mp (pm.mem_iff.mp hv)
    exact ⟨q, hq, e.symm⟩
  have nref : (L.map fun q => Value.ref q.1).Nodup := List.pairwise_map.mpr (nL.imp_of_mem fun {q r} hq hr ne e => by
    injection e with e
    exact ne (one q hq r hr e))
  have nL' : L'.Nodup := nodup_of_map (by rw [← eL]; exact pm.nodup_iff.mpr nref)
  have pL : L'.Perm L := (List.perm_ext_iff_of_nodup nL' nL).mpr fun q => ⟨hs q, fun hq => by
    have hm : Value.ref q.1 ∈ L'.map fun q => Value.ref q.1 := by rw [← eL]; exact pm.mem_iff.mpr (List.mem_map.mpr ⟨q, hq, rfl⟩)
    obtain ⟨r, hr, e⟩ := List.mem_map.mp hm
    injection e with e
    rw [← one r (hs r hr) q hq e]
    exact hr⟩
  have gi' : SetIs ks L' := ⟨fun q hq => gi.1 q (hs q hq), fun q hq => (pL.map (·.2)).mem_iff.mpr (gi.2.1 q hq), (pL.map (·.2)).nodup_iff.mpr gi.2.2⟩
  have pw' : L'.Pairwise (fun x y => lexL y.2 x.2 = false) := by
    rw [eL] at pw
    refine List.Pairwise.imp_of_mem (fun {q r} hq hr h => ?_) (List.pairwise_map.mp pw)
    have f1 : TS.intsOf s2.heap (.ref q.1) = q.2 := (tupInts_of (P := X.prog) (w := X.w) (R2.tu q (hs q hq))).ints
    have f2 : TS.intsOf s2.heap (.ref r.1) = r.2 := (tupInts_of (P := X.prog) (w := X.w) (R2.tu r (hs r hr))).ints
    rw [← f1, ← f2]
    exact h
  have ll : L'.length < 4000 := by rw [pL.length_eq]; exact R2.fe
  have hn : H1 pn = none := I2.hok.fresh hp
  have hv : Vals (L'.map fun q => V.ref q.1) out := by rw [eL]; exact vals_of_refs L'
  have J : Inv X pins σ (upd H1 pn (.lst (L'.map fun q => V.ref q.1))) { s2 with heap := s'.heap, gens := s'.gens, drawn := s'.drawn, toks := s'.toks } :=
    I2.call (ch := []) (Un.laid kp hp hn) (I2.hok.laid kp hp ⟨by rw [List.length_map, sizeLine_eq]; omega, out, n, hv, hget⟩) (by rw [eg]; exact I2.bare) (fun _ z => nomatch z)
  have e : s' = { s2 with heap := s'.heap, gens := s'.gens, drawn := s'.drawn, toks := s'.toks } := by
    cases s'
    cases s2
    cases eo
    rfl
  rw [e]
  exact ⟨.ref pn, _, J, rfl, q1 L' pn gi' pw' hn⟩
end
end Zb
namespace Z
open PySem PySem.Spec PyProof.Rows L2 Zb
section
variable {α : Type} [Py α] [Ktup α] {K : PySem.W.Frag} {H Ho : Hp} {R : Grp} {v : V} {Q : VK} {σ : L2.St} {te : TE}
/-- each one once -/
def ddK : List α → List α
  | [] => []
  | x :: l => if Ktup.key x ∈ l.map Ktup.key then ddK l else x :: ddK l
theorem ddK_mem {x : α} : ∀ {l : List α}, x ∈ ddK l ↔ x ∈ l
  | [] => Iff.rfl
  | y :: l => by
    unfold ddK
    split
    · rename_i h
      rw [ddK_mem, List.mem_cons]
      refine ⟨.inr, fun z => z.elim (fun e => ?_) id⟩
      obtain ⟨u, hu, eu⟩ := List.mem_map.mp h
      rw [e, ← Ktup.inj u y eu]
      exact hu
    · rw [List.mem_cons, List.mem_cons, ddK_mem]
theorem ddK_nd : ∀ l : List α, (ddK l).Nodup
  | [] => List.nodup_nil
  | y :: l => by
    unfold ddK
    split
    · exact ddK_nd l
    · rename_i h
      exact List.nodup_cons.mpr ⟨fun z => h (List.mem_map.mpr ⟨y, ddK_mem.mp z, rfl⟩), ddK_nd l⟩
theorem key_nd {l : List α} (h : l.Nodup) : (l.map Ktup.key).Nodup := List.pairwise_map.mpr (List.Pairwise.imp (fun ne e => ne (Ktup.inj _ _ e)) h)
theorem set_keys {xs : List α} {ks L : List (Addr × List Int)} (s : SetL Ho ks xs) (h : SetIs ks L) : (L.map (·.2)).Perm ((ddK xs).map Ktup.key) := by
  refine (List.perm_ext_iff_of_nodup h.2.2 (key_nd (ddK_nd xs))).mpr fun k => ⟨fun hk => ?_, fun hk => ?_⟩
  · obtain ⟨p, hp, rfl⟩ := List.mem_map.mp hk
    obtain ⟨x, hx, e, _⟩ := s.1 p (h.1 p hp)
    exact List.mem_map.mpr ⟨x, ddK_mem.mpr hx, e.symm⟩
  · obtain ⟨x, hx, rfl⟩ := List.mem_map.mp hk
    obtain ⟨p, hp, e⟩ := s.2 x (ddK_mem.mp hx)
    rw [← e]
    exact h.2.1 p hp
theorem set_sqt {xs : List α} {ks : List (Addr × List Int)} (z : Zs R H Ho) (s : SetL Ho ks xs) : ∀ p ∈ ks, SqT K H p.1 (p.2.map V.int) := fun p hp => by
  obtain ⟨x, _, e, ht⟩ := s.1 p hp
  rw [e]
  exact SqT.of (z.le _ _ ht)
theorem k_srtSet (k : te σ H fun x H1 => SrtSetK K Q x H1) : tSrtSetB K te σ H Q := k
theorem y_srtSet {xs : List α} (d : LV K R Ho v xs) (z : Zs R H Ho) (hl : xs.length < 4000) (k : ∀ H' p ws, Zs ((p, .lst ws) :: R) H' Ho → DL K Ho ws (srtK (ddK xs)) → Q (.ref p) H') : SrtSetK K Q v H := by
  obtain ⟨p, vs, rfl, d, s⟩ := LV.rd d z
  obtain ⟨ks, rfl, sl, hk⟩ := dl_ks d
  refine ⟨p, ks, Ktup.d α, rfl, s, set_sqt z sl, by omega, Ktup.pos, fun q hq => ?_, fun L pn h pw hn => ?_⟩
  · obtain ⟨x, _, e, _⟩ := sl.1 q hq
    rw [e, Ktup.len]
  · obtain ⟨ys, e1, e2, e3⟩ := ks_dl (K := K) (Ho := Ho) (xs := xs) (L := L) fun q hq => sl.1 q (h.1 q hq)
    have ny : ys.Nodup := nodup_of_map (f := Ktup.key) (by rw [e1]; exact h.2.2)
    have py : ys.Perm (ddK xs) := (List.perm_ext_iff_of_nodup ny (ddK_nd xs)).mpr fun y => ⟨fun hy => ddK_mem.mpr (e3 y hy), fun hy => by
      have : Ktup.key y ∈ ys.map Ktup.key := by
        rw [e1]
        exact (set_keys sl h).mem_iff.mpr (List.mem_map.mpr ⟨y, hy, rfl⟩)
      obtain ⟨y', hy', e⟩ := List.mem_map.mp this
      rw [← Ktup.inj y' y e]
      exact hy'⟩
    have pwy : ys.Pairwise (fun x y => leK x y = true) := by
      have h1 : (ys.map Ktup.key).Pairwise (fun x y => lexL y x = false) := by
        rw [e1]
        exact List.pairwise_map.mpr pw
      refine List.Pairwise.imp (fun h => ?_) (List.pairwise_map.mp h1)
      unfold leK
      rw [h]
      rfl
    have e := srtK_of py pwy
    rw [e] at e2
    exact k _ pn _ (z.root hn) e2
end
end Z
/-! # Ym: what the computations promise, in plain Lean -/
namespace Z
open PySem L2
section
variable {α β γ S ρ : Type}
theorem run_bind {c : W α} {f : α → W β} {Φ : β → Prop} : (W.bind c f).run Φ = c.run fun a => (f a).run Φ := propext ⟨fun h => h, fun h => h⟩
theorem run_bind2 {c : W (α × β)} {f : α → β → W γ} {Φ : γ → Prop} : (W.bind2 c f).run Φ = c.run fun r => (f r.1 r.2).run Φ := propext ⟨fun h => h, fun h => h⟩
theorem run_rt {a : α} {Φ : α → Prop} : (W.ret a).run Φ = Φ a := propext ⟨fun h => h, fun h => h⟩
theorem run_guard {p : Prop} {c : W α} {Φ : α → Prop} : (W.guard p c).run Φ = (p ∧ c.run Φ) := propext ⟨fun h => h, fun h => h⟩
theorem run_opt {o : Option α} {Φ : α → Prop} : (W.opt o).run Φ = ∃ a, o = some a ∧ Φ a := propext ⟨fun h => h, fun h => h⟩
theorem run_ite {b : Bool} {x y : W α} {Φ : α → Prop} : (W.ite b x y).run Φ = ((b = true → x.run Φ) ∧ (b = false → y.run Φ)) := propext ⟨fun h => h, fun h => h⟩
theorem run_if {b : Bool} {x y : W α} {Φ : α → Prop} : (W.ite b x y).run Φ = (if b = true then x.run Φ else y.run Φ) := by
  rw [run_ite]; cases b <;> simp
theorem run_mono {c : W α} {Φ Φ' : α → Prop} (h : c.run Φ) (k : ∀ a, Φ a → Φ' a) : c.run Φ' := c.mono _ _ k h
theorem atI_some {xs : List α} {i : Int} (h0 : 0 ≤ i) (h : i < xs.length) : ∃ a, a ∈ xs ∧ atI xs i = some a := by
  obtain ⟨j, rfl⟩ : ∃ j : Nat, i = j := ⟨i.toNat, by omega⟩
  have hj : j < xs.length := by omega
  exact ⟨xs[j], List.getElem_mem hj, atI_nat (List.getElem?_eq_getElem hj)⟩
theorem atI_get' {xs : List α} {i : Int} {a : α} (h0 : 0 ≤ i) (h : xs[i.toNat]? = some a) : atI xs i = some a := by
  obtain ⟨j, rfl⟩ : ∃ j : Nat, i = j := ⟨i.toNat, by omega⟩
  exact atI_nat (by simpa using h)
theorem ixN_nat' {n : Nat} {i : Int} (h0 : 0 ≤ i) (h : i < n) : ixN n i = some i.toNat := by
  unfold ixN
  rw [if_pos h0, if_pos h]
theorem forL_wp (Inv : Nat → S → Prop) {xs : List α} {s : S} {f : α → S → W S} {Φ : S → Prop} (h0 : Inv 0 s) (step : ∀ i x s, xs[i]? = some x → Inv i s → (f x s).run (Inv (i + 1))) (k : ∀ s, Inv xs.length s → Φ s) : (W.forL xs s f).run Φ := by
  induction xs generalizing s Inv with
  | nil => exact k s h0
  | cons x xs ih =>
    show (f x s).run (fun s' => (W.forL xs s' f).run Φ)
    refine run_mono (step 0 x s rfl h0) fun s' h' => ?_
    exact ih (fun i => Inv (i + 1)) h' (fun i y s hy hi => step (i + 1) y s (by simpa using hy) hi) fun s hs => k s hs
theorem forC_wp (Inv : Nat → S → Prop) {xs : List α} {s : S} {f : α → S → W (Ctl ρ S)} {Φ : Ctl ρ S → Prop} (h0 : Inv 0 s)
    (step : ∀ i x s, xs[i]? = some x → Inv i s → (f x s).run (CtlP (Inv (i + 1)) (fun s => Φ (.nx s)) (fun r => Φ (.rt r)))) (k : ∀ s, Inv xs.length s → Φ (.nx s)) : (W.forC xs s f).run Φ := by
  induction xs generalizing s Inv with
  | nil => exact k s h0
  | cons x xs ih =>
    show (W.bind (f x s) _).run Φ
    rw [run_bind]
    refine run_mono (step 0 x s rfl h0) fun c hc => ?_
    cases c with
    | nx s' => exact ih (fun i => Inv (i + 1)) hc (fun i y s hy hi => step (i + 1) y s (by simpa using hy) hi) fun s hs => k s hs
    | bk s' => exact hc
    | rt r => exact hc
theorem comp_wp {xs : List α} {acc : List β} {ct : α → W Bool} {cf : α → W β} (t : α → Bool) (f : α → β) {Φ : List β → Prop} (ht : ∀ x ∈ xs, ∀ Ψ : Bool → Prop, Ψ (t x) → (ct x).run Ψ) (hf : ∀ x ∈ xs, t x = true → ∀ Ψ : β → Prop, Ψ (f x) → (cf x).run Ψ)
    (k : Φ (acc ++ (xs.filter t).map f)) : (comp xs acc ct cf).run Φ := by
  induction xs generalizing acc with
  | nil =>
    simp at k
    exact k
  | cons x xs ih =>
    refine ht x List.mem_cons_self _ ⟨fun e => ?_, fun e => ?_⟩
    · refine hf x List.mem_cons_self e _ (ih (fun y hy => ht y (List.mem_cons_of_mem _ hy)) (fun y hy => hf y (List.mem_cons_of_mem _ hy)) ?_)
      simpa [List.filter_cons, e] using k
    · refine ih (fun y hy => ht y (List.mem_cons_of_mem _ hy)) (fun y hy => hf y (List.mem_cons_of_mem _ hy)) ?_
      simpa [List.filter_cons, e] using k
theorem compG_wp {xs : List α} {ct : α → W Bool} {cf : α → W β} (t : α → Bool) (f : α → β) {Φ : List β → Prop} (hl : xs.length ≤ sizeLine) (ht : ∀ x ∈ xs, ∀ Ψ : Bool → Prop, Ψ (t x) → (ct x).run Ψ) (hf : ∀ x ∈ xs, t x = true → ∀ Ψ : β → Prop, Ψ (f x) → (cf x).run Ψ)
    (k : Φ ((xs.filter t).map f)) : (compG xs ct cf).run Φ := ⟨hl, comp_wp t f ht hf (by simpa using k)⟩
theorem small {n : Nat} (h : n ≤ 100000) : n ≤ sizeLine := Nat.le_trans h (by decide)
theorem small' {n : Nat} (h : n ≤ 100000) : n < sizeLine := Nat.lt_of_le_of_lt h (by decide)
theorem apd_wp {xs : List α} {x : α} {Φ : List α → Prop} (h : xs.length ≤ 100000) (k : Φ (xs ++ [x])) : (apd xs x).run Φ := ⟨small' h, k⟩
theorem sti_wp {xs : List α} {i : Int} {y : α} {Φ : List α → Prop} (h0 : 0 ≤ i) (h : i < xs.length) (k : Φ (xs.set i.toNat y)) : (sti xs i y).run Φ := ⟨i.toNat, ixN_nat' h0 h, k⟩
/-! slices -/
theorem sIx_none (n d : Nat) : HT.sIx n d none = d := HT.sIx_none n d
theorem cut_from {xs : List α} {k : Int} (h0 : 0 ≤ k) : cut xs (some k) none = xs.drop k.toNat := by
  obtain ⟨j, rfl⟩ : ∃ j : Nat, k = j := ⟨k.toNat, by omega⟩
  unfold cut
  rw [HT.sIx_none, HT.sIx_nat]
  simp only [Int.toNat_natCast]
  by_cases h : j ≤ xs.length
  · rw [Nat.min_eq_left h, List.take_of_length_le (by simp)]
  · rw [Nat.min_eq_right (by omega)]
    simp
    omega
end
/-! ### equal data -/
/-- data that == tells apart as Lean does, and that may be compared -/
class Eqv (α : Type) [Py α] where
  eqv : ∀ x y : α, PyData.eqv (toPy x) (toPy y) = true ↔ x = y
  d : Nat
  shape : ∀ x : α, (toPy x).depth ≤ d
theorem eqvAll_map {α : Type} [Py α] [Eqv α] : ∀ xs ys : List α, PyData.eqvAll (xs.map Py.toPy) (ys.map Py.toPy) = true ↔ xs = ys
  | [], [] => by simp [PyData.eqvAll]
  | [], y :: ys => by simp [PyData.eqvAll]
  | x :: xs, [] => by simp [PyData.eqvAll]
  | x :: xs, y :: ys => by
    have h1 := Eqv.eqv x y
    have h2 := eqvAll_map xs ys
    simp only [List.map_cons, PyData.eqvAll, Bool.and_eq_true, List.cons.injEq]
    rw [← h1, ← h2]
theorem depthAll_map {α : Type} [Py α] [Eqv α] : ∀ xs : List α, PyData.depthAll (xs.map Py.toPy) ≤ Eqv.d α
  | [] => by simp [PyData.depthAll]
  | x :: xs => by
    have h1 := Eqv.shape x
    have h2 := depthAll_map xs
    simp only [List.map_cons, PyData.depthAll]
    exact Nat.max_le.mpr ⟨h1, h2⟩
instance : Eqv Int := ⟨fun x y => by simp [toPy, Py.toPy, PyData.eqv], 0, fun x => by simp [toPy, Py.toPy, PyData.depth]⟩
instance : Eqv Bool := ⟨fun x y => by simp [toPy, Py.toPy, PyData.eqv], 0, fun x => by simp [toPy, Py.toPy, PyData.depth]⟩
instance : Eqv Str := ⟨fun x y => by simp [toPy, Py.toPy, PyData.eqv], 0, fun x => by simp [toPy, Py.toPy, PyData.depth]⟩
instance {α : Type} [Py α] [Eqv α] : Eqv (List α) := ⟨fun x y => by
  show PyData.eqv (.list (x.map Py.toPy)) (.list (y.map Py.toPy)) = true ↔ x = y
  simp only [PyData.eqv]
  exact eqvAll_map x y, Eqv.d α + 1, fun x => by
  show PyData.depth (.list (x.map Py.toPy)) ≤ _
  simp only [PyData.depth]
  exact Nat.succ_le_succ (depthAll_map x)⟩
instance {α β : Type} [Py α] [Py β] [Eqv α] [Eqv β] : Eqv (α × β) := ⟨fun x y => by
  obtain ⟨x1, x2⟩ := x
  obtain ⟨y1, y2⟩ := y
  show PyData.eqv (.tuple [toPy x1, toPy x2]) (.tuple [toPy y1, toPy y2]) = true ↔ _
  simp only [PyData.eqv, PyData.eqvAll, Bool.and_eq_true, Bool.and_true, Prod.mk.injEq]
  rw [Eqv.eqv x1 y1, Eqv.eqv x2 y2], Eqv.d α + Eqv.d β + 1, fun x => by
  obtain ⟨x1, x2⟩ := x
  show PyData.depth (.tuple [toPy x1, toPy x2]) ≤ _
  have h1 := Eqv.shape x1
  have h2 := Eqv.shape x2
  simp only [PyData.depth, PyData.depthAll]
  omega⟩
instance {α β γ : Type} [Py α] [Py β] [Py γ] [Eqv α] [Eqv β] [Eqv γ] : Eqv (P3 α β γ) := ⟨fun x y => by
  obtain ⟨x1, x2, x3⟩ := x
  obtain ⟨y1, y2, y3⟩ := y
  show PyData.eqv (.tuple [toPy x1, toPy x2, toPy x3]) (.tuple [toPy y1, toPy y2, toPy y3]) = true ↔ _
  simp only [PyData.eqv, PyData.eqvAll, Bool.and_eq_true, Bool.and_true, P3.mk.injEq]
  rw [Eqv.eqv x1 y1, Eqv.eqv x2 y2, Eqv.eqv x3 y3], Eqv.d α + Eqv.d β + Eqv.d γ + 1, fun x => by
  obtain ⟨x1, x2, x3⟩ := x
  show PyData.depth (.tuple [toPy x1, toPy x2, toPy x3]) ≤ _
  have h1 := Eqv.shape x1
  have h2 := Eqv.shape x2
  have h3 := Eqv.shape x3
  simp only [PyData.depth, PyData.depthAll]
  omega⟩
instance {α β γ δ : Type} [Py α] [Py β] [Py γ] [Py δ] [Eqv α] [Eqv β] [Eqv γ] [Eqv δ] : Eqv (P4 α β γ δ) := ⟨fun x y => by
  obtain ⟨x1, x2, x3, x4⟩ := x
  obtain ⟨y1, y2, y3, y4⟩ := y
  show PyData.eqv (.tuple [toPy x1, toPy x2, toPy x3, toPy x4]) (.tuple [toPy y1, toPy y2, toPy y3, toPy y4]) = true ↔ _
  simp only [PyData.eqv, PyData.eqvAll, Bool.and_eq_true, Bool.and_true, P4.mk.injEq]
  rw [Eqv.eqv x1 y1, Eqv.eqv x2 y2, Eqv.eqv x3 y3, Eqv.eqv x4 y4], Eqv.d α + Eqv.d β + Eqv.d γ + Eqv.d δ + 1, fun x => by
  obtain ⟨x1, x2, x3, x4⟩ := x
  show PyData.depth (.tuple [toPy x1, toPy x2, toPy x3, toPy x4]) ≤ _
  have h1 := Eqv.shape x1
  have h2 := Eqv.shape x2
  have h3 := Eqv.shape x3
  have h4 := Eqv.shape x4
  simp only [PyData.depth, PyData.depthAll]
  omega⟩
theorem eqD_iff {α : Type} [Py α] [Eqv α] {x y : α} : eqD x y = true ↔ x = y := Eqv.eqv x y
theorem eqD_dec {α : Type} [Py α] [Eqv α] [DecidableEq α] {x y : α} : eqD x y = decide (x = y) := by
  by_cases h : x = y
  · rw [decide_eq_true h]; exact eqD_iff.mpr h
  · rw [decide_eq_false h]
    cases e : eqD x y with
    | false => rfl
    | true => exact absurd (eqD_iff.mp e) h
theorem eqD_self {α : Type} [Py α] [Eqv α] (x : α) : eqD x x = true := eqD_iff.mpr rfl
/-- what may be laid at all: the texts in it are of signs that there are -/
class Lay (α : Type) [Py α] where
  ok : α → Prop
  lay : ∀ x : α, ok x → (toPy x).canLay0 = true
theorem canLayAll_map {α : Type} [Py α] [Lay α] : ∀ xs : List α, (∀ x ∈ xs, Lay.ok x) → PyData.canLayAll0 (xs.map Py.toPy) = true
  | [], _ => by simp [PyData.canLayAll0]
  | x :: xs, h => by
    simp only [List.map_cons, PyData.canLayAll0, Bool.and_eq_true]
    exact ⟨Lay.lay x (h x List.mem_cons_self), canLayAll_map xs fun y hy => h y (List.mem_cons_of_mem _ hy)⟩
instance : Lay Int := ⟨fun _ => True, fun x _ => by simp [toPy, Py.toPy, PyData.canLay0]⟩
instance : Lay Bool := ⟨fun _ => True, fun x _ => by simp [toPy, Py.toPy, PyData.canLay0]⟩
instance : Lay Str := ⟨fun x => PyData.strOk x = true, fun x h => by simpa [toPy, Py.toPy, PyData.canLay0] using h⟩
instance {α : Type} [Py α] [Lay α] : Lay (List α) := ⟨fun xs => ∀ x ∈ xs, Lay.ok x, fun xs h => by
  show PyData.canLay0 (.list (xs.map Py.toPy)) = true
  simp only [PyData.canLay0]
  exact canLayAll_map xs h⟩
instance {α β : Type} [Py α] [Py β] [Lay α] [Lay β] : Lay (α × β) := ⟨fun x => Lay.ok x.1 ∧ Lay.ok x.2, fun x h => by
  show PyData.canLay0 (.tuple [toPy x.1, toPy x.2]) = true
  simp only [PyData.canLay0, PyData.canLayAll0, Bool.and_eq_true, Bool.and_true]
  exact ⟨Lay.lay _ h.1, Lay.lay _ h.2⟩⟩
instance {α β γ : Type} [Py α] [Py β] [Py γ] [Lay α] [Lay β] [Lay γ] : Lay (P3 α β γ) := ⟨fun x => Lay.ok x.a ∧ Lay.ok x.b ∧ Lay.ok x.c, fun x h => by
  show PyData.canLay0 (.tuple [toPy x.a, toPy x.b, toPy x.c]) = true
  simp only [PyData.canLay0, PyData.canLayAll0, Bool.and_eq_true, Bool.and_true]
  exact ⟨Lay.lay _ h.1, Lay.lay _ h.2.1, Lay.lay _ h.2.2⟩⟩
instance {α β γ δ : Type} [Py α] [Py β] [Py γ] [Py δ] [Lay α] [Lay β] [Lay γ] [Lay δ] : Lay (P4 α β γ δ) := ⟨fun x => Lay.ok x.a ∧ Lay.ok x.b ∧ Lay.ok x.c ∧ Lay.ok x.d, fun x h => by
  show PyData.canLay0 (.tuple [toPy x.a, toPy x.b, toPy x.c, toPy x.d]) = true
  simp only [PyData.canLay0, PyData.canLayAll0, Bool.and_eq_true, Bool.and_true]
  exact ⟨Lay.lay _ h.1, Lay.lay _ h.2.1, Lay.lay _ h.2.2.1, Lay.lay _ h.2.2.2⟩⟩
/-- kinds in which no text stands -/
class Pl (α : Type) [Py α] : Prop where
  lay : ∀ x : α, (toPy x).canLay0 = true
theorem plAll {α : Type} [Py α] [Pl α] : ∀ xs : List α, PyData.canLayAll0 (xs.map Py.toPy) = true
  | [] => by simp [PyData.canLayAll0]
  | x :: xs => by
    simp only [List.map_cons, PyData.canLayAll0, Bool.and_eq_true]
    exact ⟨Pl.lay x, plAll xs⟩
instance : Pl Int := ⟨fun x => by simp [toPy, Py.toPy, PyData.canLay0]⟩
instance : Pl Bool := ⟨fun x => by simp [toPy, Py.toPy, PyData.canLay0]⟩
instance : Pl Unit := ⟨fun x => by simp [toPy, Py.toPy, PyData.canLay0]⟩
instance {α : Type} [Py α] [Pl α] : Pl (List α) := ⟨fun xs => by
  show PyData.canLay0 (.list (xs.map Py.toPy)) = true
  simp only [PyData.canLay0]
  exact plAll xs⟩
instance {α : Type} [Py α] [Pl α] : Pl (Option α) := ⟨fun x => by
  cases x with
  | none => show PyData.canLay0 .none = true; simp [PyData.canLay0]
  | some a => exact Pl.lay a⟩
instance {α β : Type} [Py α] [Py β] [Pl α] [Pl β] : Pl (α × β) := ⟨fun x => by
  show PyData.canLay0 (.tuple [toPy x.1, toPy x.2]) = true
  simp only [PyData.canLay0, PyData.canLayAll0, Bool.and_eq_true, Bool.and_true]
  exact ⟨Pl.lay _, Pl.lay _⟩⟩
instance {α β γ : Type} [Py α] [Py β] [Py γ] [Pl α] [Pl β] [Pl γ] : Pl (P3 α β γ) := ⟨fun x => by
  show PyData.canLay0 (.tuple [toPy x.a, toPy x.b, toPy x.c]) = true
  simp only [PyData.canLay0, PyData.canLayAll0, Bool.and_eq_true, Bool.and_true]
  exact ⟨Pl.lay _, Pl.lay _, Pl.lay _⟩⟩
instance {α β γ δ : Type} [Py α] [Py β] [Py γ] [Py δ] [Pl α] [Pl β] [Pl γ] [Pl δ] : Pl (P4 α β γ δ) := ⟨fun x => by
  show PyData.canLay0 (.tuple [toPy x.a, toPy x.b, toPy x.c, toPy x.d]) = true
  simp only [PyData.canLay0, PyData.canLayAll0, Bool.and_eq_true, Bool.and_true]
  exact ⟨Pl.lay _, Pl.lay _, Pl.lay _, Pl.lay _⟩⟩
/-- kinds that are never None -/
class Nn (α : Type) [Py α] : Prop where
  ne : ∀ x : α, toPy x ≠ .none
  l : ∀ x : α, PyData.eqv (toPy x) .none = false
  r : ∀ x : α, PyData.eqv .none (toPy x) = false
instance : Nn Int := ⟨fun x e => (by cases e), fun x => (by simp [toPy, Py.toPy, PyData.eqv]), fun x => (by simp [toPy, Py.toPy, PyData.eqv])⟩
instance : Nn Bool := ⟨fun x e => (by cases e), fun x => (by simp [toPy, Py.toPy, PyData.eqv]), fun x => (by simp [toPy, Py.toPy, PyData.eqv])⟩
instance : Nn Str := ⟨fun x e => (by cases e), fun x => (by simp [toPy, Py.toPy, PyData.eqv]), fun x => (by simp [toPy, Py.toPy, PyData.eqv])⟩
instance {α : Type} [Py α] : Nn (List α) := ⟨fun x e => (by cases e), fun x => (by simp [toPy, Py.toPy, PyData.eqv]), fun x => (by simp [toPy, Py.toPy, PyData.eqv])⟩
instance {α β : Type} [Py α] [Py β] : Nn (α × β) := ⟨fun x e => (by cases e), fun x => (by simp [toPy, Py.toPy, PyData.eqv]), fun x => (by simp [toPy, Py.toPy, PyData.eqv])⟩
instance {α β γ : Type} [Py α] [Py β] [Py γ] : Nn (P3 α β γ) := ⟨fun x e => (by cases e), fun x => (by simp [toPy, Py.toPy, PyData.eqv]), fun x => (by simp [toPy, Py.toPy, PyData.eqv])⟩
instance {α β γ δ : Type} [Py α] [Py β] [Py γ] [Py δ] : Nn (P4 α β γ δ) := ⟨fun x e => (by cases e), fun x => (by simp [toPy, Py.toPy, PyData.eqv]), fun x => (by simp [toPy, Py.toPy, PyData.eqv])⟩
theorem nn {α : Type} [Py α] [Nn α] {x : Option α} : ∀ b : α, x = some b → toPy b ≠ .none := fun b _ => Nn.ne b
instance {α : Type} [Py α] [Eqv α] [Nn α] : Eqv (Option α) := ⟨fun x y => by
  cases x with
  | none =>
    cases y with
    | none => show PyData.eqv .none .none = true ↔ _; simp [PyData.eqv]
    | some b => show PyData.eqv .none (toPy b) = true ↔ _; rw [Nn.r]; simp
  | some a =>
    cases y with
    | none => show PyData.eqv (toPy a) .none = true ↔ _; rw [Nn.l]; simp
    | some b => show PyData.eqv (toPy a) (toPy b) = true ↔ _; rw [Eqv.eqv a b]; simp, Eqv.d α, fun x => by
  cases x with
  | none => show PyData.depth .none ≤ _; simp [PyData.depth]
  | some a => exact Eqv.shape a⟩
theorem okD_pl {α : Type} [Py α] [Eqv α] [Pl α] (x : α) (hd : Eqv.d α ≤ 64 := by decide) : okD x := by
  unfold okD SeqAt.shaped
  rw [Bool.and_eq_true]
  exact ⟨Pl.lay x, decide_eq_true (Nat.le_trans (Eqv.shape x) hd)⟩
theorem inD_iff {α : Type} [Py α] [Eqv α] {x : α} {ys : List α} : inD x ys = true ↔ x ∈ ys := by
  unfold inD
  rw [List.any_eq_true]
  constructor
  · rintro ⟨y, hy, e⟩
    rw [← eqD_iff.mp e]; exact hy
  · intro h
    exact ⟨x, h, eqD_self x⟩
theorem inD_dec {α : Type} [Py α] [Eqv α] [DecidableEq α] {x : α} {ys : List α} : inD x ys = decide (x ∈ ys) := by
  by_cases h : x ∈ ys
  · rw [decide_eq_true h]; exact inD_iff.mpr h
  · rw [decide_eq_false h]
    cases e : inD x ys with
    | false => rfl
    | true => exact absurd (inD_iff.mp e) h
end Z
namespace M
open PySem L2 Z
def m_is_touch (counts_ : (List Int)) (hand_ : Int) (k_ : Int) : W (Bool) :=
  W.bind (W.ite (decide ((0 : Int) ≤ hand_)) (W.bind (W.ite (decide (hand_ < ((counts_).length : Int))) (W.bind (W.ite (decide ((0 : Int) ≤ k_)) (W.bind (W.opt (atI counts_ hand_)) fun t1 => W.ret (decide (k_ < t1))) (W.ret false)) (fun t3 => W.ret t3)) (W.ret false)) (fun t7 => W.ret t7)) (W.ret false)) (fun t11 => W.ret t11)
def m_need_record_L1 (counts_ : (List Int)) (hand_ : Int) (k_ : Int) (other_ : Int) (m_ : Int) : W (Unit) :=
  W.bind (W.ite (decide (hand_ = other_)) (W.ret true) (W.bind (m_is_touch counts_ hand_ k_) fun t2 => W.bind (W.ite (!t2) (W.ret true) (W.bind (m_is_touch counts_ other_ m_) fun t6 => W.ret (!t6))) (fun t10 => W.ret t10))) (fun t14 => W.ite t14 (W.bad) (W.ret (())))
def m_need_record (record_ : ((List Int) × (List (P4 Int Int Int Int)))) : W (Unit) :=
  W.bind (W.ret record_.1) fun record__0_ => W.bind (W.ret record_.2) fun record__1_ => W.bind (W.ret record__0_) fun counts_ => W.bind (W.ret record__1_) fun some_ => W.bind (W.forL some_ () (fun a s => m_need_record_L1 counts_ a.a a.b a.c a.d)) (fun _ => W.ret ())
def m_firsts_of_L1 (hand_ : Int) (k_ : Int) (other_ : Int) (m_ : Int) (found_ : (Dc (Int × Int) (List (Int × Int)))) : W ((Dc (Int × Int) (List (Int × Int)))) :=
  W.bind (sdApp found_ (other_, m_) (hand_, k_)) fun found_ => W.ret (found_)
def m_firsts_of (record_ : ((List Int) × (List (P4 Int Int Int Int)))) : W ((Dc (Int × Int) (List (Int × Int)))) :=
  W.bind (W.ret record_.1) fun record__0_ => W.bind (W.ret record_.2) fun record__1_ => W.bind (W.ret ([] : (Dc (Int × Int) (List (Int × Int))))) fun found_ => W.bind (W.forL record__1_ found_ (fun a s => m_firsts_of_L1 a.a a.b a.c a.d s)) (fun s => (fun found_ => W.ret found_) s)
def m_waits_for (firsts_ : (Dc (Int × Int) (List (Int × Int)))) (now_ : (List Int)) (hand_ : Int) : W ((List (Int × Int))) :=
  W.bind (W.opt (atI now_ hand_)) fun t2 => W.bind (W.ret ((valM firsts_ (hand_, t2)).getD ([] : (List (Int × Int))))) fun there_ => W.bind (compG there_ (fun a => (fun other_ k_ => W.bind (W.opt (atI now_ other_)) fun t15 => W.ret (decide (k_ ≥ t15))) a.1 a.2) (fun a => (fun other_ k_ => W.ret (other_, k_)) a.1 a.2)) fun t22 => W.ret t22
def m_ready (counts_ : (List Int)) (firsts_ : (Dc (Int × Int) (List (Int × Int)))) (now_ : (List Int)) : W ((List Int)) :=
  W.guard (rngOk 0 ((counts_).length : Int)) (W.bind (compG (rng 0 ((counts_).length : Int)) (fun hand_ => W.bind (W.opt (atI now_ hand_)) fun t3 => W.bind (W.opt (atI counts_ hand_)) fun t5 => W.ret (decide (t3 < t5))) (fun hand_ => W.ret hand_)) fun t10 => W.bind (W.ret t10) fun hands_ => W.bind (compG hands_ (fun hand_ => W.bind (m_waits_for firsts_ now_ hand_) fun t17 => W.guard (okD t17 ∧ okD ([] : (List (Int × Int)))) (W.ret (eqD t17 ([] : (List (Int × Int)))))) (fun hand_ => W.ret hand_)) fun t28 => W.ret t28)
def m_first_order_L1 (counts_ : (List Int)) (firsts_ : (Dc (Int × Int) (List (Int × Int)))) (now_ : (List Int)) (order_ : (List Int)) : W (Ctl (Option (List Int)) ((List Int) × (List Int))) :=
  W.ite (decide (((order_).length : Int) < ((counts_).sum))) (W.bind (m_ready counts_ firsts_ now_) fun t22 => W.bind (W.ret t22) fun hands_ => W.guard (okD hands_ ∧ okD ([] : (List Int))) (W.ite (eqD hands_ ([] : (List Int))) (W.ret (Ctl.rt (none : (Option (List Int))))) (W.bind (W.opt (atI hands_ (0 : Int))) fun t30 => W.bind (apd order_ t30) fun order_ => W.bind (W.opt (atI hands_ (0 : Int))) fun t32 => W.bind (W.opt (atI now_ t32)) fun t34 => W.bind (sti now_ t32 (t34 + (1 : Int))) fun now_ => W.ret (Ctl.nx (now_, order_))))) (W.ret (Ctl.bk (now_, order_)))
def m_first_order (record_ : ((List Int) × (List (P4 Int Int Int Int)))) : W ((Option (List Int))) :=
  W.bind (W.ret record_.1) fun record__0_ => W.bind (W.ret record_.2) fun record__1_ => W.bind (m_need_record (record__0_, record__1_)) fun t1 => W.bind (W.ret record__0_) fun counts_ => W.bind (m_firsts_of (record__0_, record__1_)) fun t5 => W.bind (W.ret t5) fun firsts_ => W.guard (repG ([(0 : Int)] : (List Int)) ((counts_).length : Int)) (W.bind (W.ret (repL ([(0 : Int)] : (List Int)) ((counts_).length : Int))) fun now_ => W.bind (W.ret ([] : (List Int))) fun order_ => W.bind (W.whileL (now_, order_) (fun s => m_first_order_L1 counts_ firsts_ s.1 s.2)) fun c => W.after c (fun s => (fun now_ order_ => W.ret (some order_)) s.1 s.2))
def m_led_on_L1 (ways_ : (Dc Int (Int × (List (P4 Int Int Int Int))))) (hand_ : Int) (k_ : Int) (other_ : Int) (m_ : Int) (found_ : (Dc Int (Int × (List (P4 Int Int Int Int))))) : W ((Dc Int (Int × (List (P4 Int Int Int Int))))) :=
  W.bind (W.ite ((valM ways_ hand_).isSome) (W.bind (W.opt (valM ways_ hand_)) fun t5 => W.bind (W.ite (decide (t5.1 ≤ k_)) (W.bind (W.ite (!(valM found_ other_).isSome) (W.ret true) (W.bind (W.opt (valM found_ other_)) fun t8 => W.ret (decide (m_ < t8.1)))) (fun t11 => W.ret t11)) (W.ret false)) (fun t15 => W.ret t15)) (W.ret false)) (fun t19 => W.bind (W.ite t19 (W.bind (W.opt (valM ways_ hand_)) fun t23 => W.guard ((t23.2).length + (([(⟨hand_, k_, other_, m_⟩ : (P4 Int Int Int Int))] : (List (P4 Int Int Int Int)))).length ≤ sizeLine) (W.bind (putG found_ other_ (m_, (t23.2 ++ ([(⟨hand_, k_, other_, m_⟩ : (P4 Int Int Int Int))] : (List (P4 Int Int Int Int)))))) fun found_ => W.ret (found_))) (W.ret (found_))) (fun s => (fun found_ => W.ret (found_)) s))
def m_led_on (some_ : (List (P4 Int Int Int Int))) (ways_ : (Dc Int (Int × (List (P4 Int Int Int Int))))) : W ((Dc Int (Int × (List (P4 Int Int Int Int))))) :=
  W.bind (W.ret ways_) fun found_ => W.bind (W.forL some_ found_ (fun a s => m_led_on_L1 ways_ a.a a.b a.c a.d s)) (fun s => (fun found_ => W.ret found_) s)
def m_ring_from_L1 (some_ : (List (P4 Int Int Int Int))) (note_ : (P4 Int Int Int Int)) (step_ : Int) (ways_ : (Dc Int (Int × (List (P4 Int Int Int Int))))) : W (Ctl (Option (List (P4 Int Int Int Int))) ((Dc Int (Int × (List (P4 Int Int Int Int)))))) :=
  W.bind (W.ite ((valM ways_ note_.a).isSome) (W.bind (W.opt (valM ways_ note_.a)) fun t17 => W.ret (decide (t17.1 ≤ note_.b))) (W.ret false)) (fun t21 => W.ite t21 (W.bind (W.opt (valM ways_ note_.a)) fun t26 => W.ret (Ctl.rt (some t26.2))) (W.bind (m_led_on some_ ways_) fun t29 => W.bind (W.ret t29) fun ways_ => W.ret (Ctl.nx ways_)))
def m_ring_from (some_ : (List (P4 Int Int Int Int))) (note_ : (P4 Int Int Int Int)) : W ((Option (List (P4 Int Int Int Int)))) :=
  W.bind (W.ret ([(note_.c, (note_.d, ([note_] : (List (P4 Int Int Int Int)))))] : (Dc Int (Int × (List (P4 Int Int Int Int)))))) fun ways_ => W.guard (rngOk 0 (8 : Int)) (W.bind (W.forC (rng 0 (8 : Int)) ways_ (fun a s => m_ring_from_L1 some_ note_ a s)) fun c => W.after c (fun s => (fun ways_ => W.ret (none : (Option (List (P4 Int Int Int Int))))) s))
def m_ring (record_ : ((List Int) × (List (P4 Int Int Int Int)))) : W ((Option (List (P4 Int Int Int Int)))) :=
  W.bind (W.ret record_.1) fun record__0_ => W.bind (W.ret record_.2) fun record__1_ => W.bind (m_need_record (record__0_, record__1_)) fun t1 => W.bind (compG record__1_ (fun note_ => W.ret true) (fun note_ => W.bind (m_ring_from record__1_ note_) fun t7 => W.ret t7)) fun t14 => W.bind (W.ret t14) fun found_ => W.bind (compG found_ (fun row_ => W.guard (∀ b, row_ = some b → toPy b ≠ .none) (W.ret (row_.isSome))) (fun row_ => W.bind (W.opt row_) fun t21 => W.ret t21)) fun t26 => W.ret (mnLen t26)
def m_ring_shows_L1 (some_ : (List (P4 Int Int Int Int))) (record__1_ : (List (P4 Int Int Int Int))) (at_ : Int) : W (Ctl Bool (Unit)) :=
  W.bind (W.opt (atI some_ at_)) fun t6 => W.bind (W.ret t6) fun note_ => W.guard (0 < ((some_).length : Int)) (W.bind (W.opt (atI some_ ((at_ + (1 : Int)) % ((some_).length : Int)))) fun t8 => W.bind (W.ret t8) fun later_ => W.guard (okD note_ ∧ okD record__1_) (W.ite ((!inD note_ record__1_) || ((!decide (note_.c = later_.a)) || (decide (note_.d > later_.b)))) (W.ret (Ctl.rt false)) (W.ret (Ctl.nx ()))))
def m_ring_shows (record_ : ((List Int) × (List (P4 Int Int Int Int)))) (some_ : (List (P4 Int Int Int Int))) : W (Bool) :=
  W.bind (W.ret record_.1) fun record__0_ => W.bind (W.ret record_.2) fun record__1_ => W.bind (m_need_record (record__0_, record__1_)) fun t1 => W.guard (rngOk 0 ((some_).length : Int)) (W.bind (W.forC (rng 0 ((some_).length : Int)) () (fun a s => m_ring_shows_L1 some_ record__1_ a)) fun c => W.after c (fun _ => W.ret (decide (((some_).length : Int) > (0 : Int)))))
def m_law_bag_L1 (cell_ : Int) (total_ : Int) : W (Int) :=
  W.guard (CMulW total_ (1000003 : Int)) (W.bind (W.ret ((((total_ * (1000003 : Int)) + (cell_ % (2305843009213693951 : Int))) + (1 : Int)) % (2305843009213693951 : Int))) fun total_ => W.ret (total_))
def m_law_bag (script_ : (List Int)) : W ((H5 (List Int) Int Int Int Int)) :=
  W.bind (W.ret (1 : Int)) fun total_ => W.bind (W.forL script_ total_ (fun a s => m_law_bag_L1 a s)) (fun s => (fun total_ => W.ret (⟨script_, (0 : Int), (0 : Int), (0 : Int), total_⟩ : (H5 (List Int) Int Int Int Int))) s)
def m_law_stir (number_ : Int) (place_ : Int) : W (Int) :=
  W.guard (CMulW number_ (998244353 : Int)) (W.guard (CMulW place_ (1000000007 : Int)) (W.bind (W.ret ((((number_ * (998244353 : Int)) + (place_ * (1000000007 : Int))) + (5 : Int)) % (2305843009213693951 : Int))) fun one_ => W.guard (CMulW one_ one_) (W.bind (W.ret ((one_ * one_) % (2305843009213693951 : Int))) fun two_ => W.guard (CMulW two_ (2860486313 : Int)) (W.guard (CMulW place_ place_) (W.guard (CMulW (place_ * place_) (48271 : Int)) (W.guard (CDivW one_ (3 : Int)) (W.guard (CDivW ((((two_ * (2860486313 : Int)) + ((place_ * place_) * (48271 : Int))) + (one_ / (3 : Int))) % (2305843009213693921 : Int)) (1024 : Int)) (W.ret (((((two_ * (2860486313 : Int)) + ((place_ * place_) * (48271 : Int))) + (one_ / (3 : Int))) % (2305843009213693921 : Int)) / (1024 : Int))))))))))
def m_law_draw (bag_ : (H5 (List Int) Int Int Int Int)) (many_ : Int) : W (Int × (H5 (List Int) Int Int Int Int)) :=
  W.ite (decide (many_ = (1 : Int))) (W.ret ((0 : Int), bag_)) (W.bind (W.ret ({ bag_ with d := (bag_.d + (1 : Int)) } : (H5 (List Int) Int Int Int Int))) fun bag_ => W.bind (W.ite (decide (bag_.c < (2 : Int))) (W.ret (decide (bag_.b = ((bag_.a).length : Int)))) (W.ret false)) (fun t5 => W.ite t5 (W.bind (m_law_stir bag_.e bag_.d) fun t11 => W.guard (0 < many_) (W.ret ((t11 % many_), bag_))) (W.bind (W.ite (decide (bag_.c < (2 : Int))) (W.bind (W.opt (atI bag_.a bag_.b)) fun t18 => W.bind (W.ret t18) fun cell_ => W.bind (W.ret ({ bag_ with b := (bag_.b + (1 : Int)) } : (H5 (List Int) Int Int Int Int))) fun bag_ => W.guard (CPow (10 : Int) (18 : Int)) (W.ite (decide (cell_ < ((10 : Int) ^ ((18 : Int)).toNat))) (W.bind (m_law_stir (cell_ % (2305843009213693951 : Int)) bag_.d) fun t22 => W.guard (0 < many_) (W.ret (Ctl.rt ((t22 % many_), bag_)))) (W.guard (CPow (10 : Int) (18 : Int)) (W.bind (W.ret ({ bag_ with c := (cell_ - ((10 : Int) ^ ((18 : Int)).toNat)) } : (H5 (List Int) Int Int Int Int))) fun bag_ => W.ret (Ctl.nx bag_))))) (W.ret (Ctl.nx bag_))) fun c => W.after c (fun s => (fun bag_ => W.guard (0 < many_) (W.bind (W.ret (bag_.c % many_)) fun found_ => W.guard (CDivW bag_.c many_) (W.bind (W.ret ({ bag_ with c := (bag_.c / many_) } : (H5 (List Int) Int Int Int Int))) fun bag_ => W.ret (found_, bag_)))) s))))
def m_law_counts (bag_ : (H5 (List Int) Int Int Int Int)) (great_ : Int) : W ((List Int) × (H5 (List Int) Int Int Int Int)) :=
  W.ite (decide (great_ = (0 : Int))) (W.bind2 (m_law_draw bag_ (7 : Int)) fun t5 bag_ => W.bind (W.opt (atI ([(3 : Int), (2 : Int), (4 : Int), (2 : Int), (3 : Int), (1 : Int), (0 : Int)] : (List Int)) t5)) fun t9 => W.guard (rngOk 0 t9) (W.bind (compSG (rng 0 t9) bag_ (fun a s => (fun hand_ => (fun bag_ => W.bind2 (m_law_draw bag_ (7 : Int)) fun t13 bag_ => W.ret (some t13, bag_)) s) a)) fun q => (fun t20 bag_ => W.ret (t20, bag_)) q.1 q.2)) (W.bind2 (m_law_draw bag_ (2 : Int)) fun t23 bag_ => W.bind (W.ret t23) fun few_ => W.bind2 (m_law_draw bag_ (9 : Int)) fun t27 bag_ => W.bind (W.ret ((8 : Int) - t27)) fun hands_ => W.guard (CDivW (300 : Int) (if hands_ > (1 : Int) then hands_ else (1 : Int))) (W.bind (W.opt (atI ([(((300 : Int) / (if hands_ > (1 : Int) then hands_ else (1 : Int))) + (1 : Int)), (4 : Int)] : (List Int)) few_)) fun t35 => W.bind (W.ret t35) fun top_ => W.guard (rngOk 0 hands_) (W.bind (compSG (rng 0 hands_) bag_ (fun a s => (fun hand_ => (fun bag_ => W.bind2 (m_law_draw bag_ top_) fun t39 bag_ => W.ret (some t39, bag_)) s) a)) fun q => (fun t46 bag_ => W.ret (t46, bag_)) q.1 q.2)))
def m_law_order_L1 (step_ : Int) (bag_ : (H5 (List Int) Int Int Int Int)) (left_ : (List Int)) (order_ : (List Int)) : W ((H5 (List Int) Int Int Int Int) × (List Int) × (List Int)) :=
  W.guard (rngOk 0 ((left_).length : Int)) (W.bind (compG (rng 0 ((left_).length : Int)) (fun hand_ => W.bind (W.opt (atI left_ hand_)) fun t12 => W.ret (decide (t12 > (0 : Int)))) (fun hand_ => W.ret hand_)) fun t17 => W.bind (W.ret t17) fun some_ => W.bind2 (m_law_draw bag_ ((some_).length : Int)) fun t22 bag_ => W.bind (W.opt (atI some_ t22)) fun t26 => W.bind (apd order_ t26) fun order_ => W.bind (W.opt (atI order_ (-(1 : Int)))) fun t28 => W.bind (W.opt (atI left_ t28)) fun t30 => W.bind (W.opt (atI order_ (-(1 : Int)))) fun t32 => W.bind (sti left_ t32 (t30 - (1 : Int))) fun left_ => W.ret ((bag_, left_, order_)))
def m_law_order (bag_ : (H5 (List Int) Int Int Int Int)) (counts_ : (List Int)) : W ((List Int) × (H5 (List Int) Int Int Int Int)) :=
  W.bind (W.ret counts_) fun left_ => W.bind (W.ret ([] : (List Int))) fun order_ => W.guard (rngOk 0 ((counts_).sum)) (W.bind (W.forL (rng 0 ((counts_).sum)) (bag_, left_, order_) (fun a s => m_law_order_L1 a s.1 s.2.1 s.2.2)) (fun s => (fun bag_ left_ order_ => W.ret (order_, bag_)) s.1 s.2.1 s.2.2))
def m_law_spots_L1 (order_ : (List Int)) (at_ : Int) (found_ : (Dc (Int × Int) Int)) (many_ : (Dc Int Int)) : W ((Dc (Int × Int) Int) × (Dc Int Int)) :=
  W.bind (W.opt (atI order_ at_)) fun t9 => W.bind (W.opt (atI order_ at_)) fun t12 => W.bind (putG many_ t12 (((valM many_ t9).getD (0 : Int)) + (1 : Int))) fun many_ => W.bind (W.opt (atI order_ at_)) fun t14 => W.bind (W.opt (atI order_ at_)) fun t16 => W.bind (W.opt (valM many_ t16)) fun t18 => W.bind (putG found_ (t14, (t18 - (1 : Int))) at_) fun found_ => W.ret ((found_, many_))
def m_law_spots (order_ : (List Int)) : W ((Dc (Int × Int) Int)) :=
  W.bind (W.ret ([] : (Dc (Int × Int) Int))) fun found_ => W.bind (W.ret ([] : (Dc Int Int))) fun many_ => W.guard (rngOk 0 ((order_).length : Int)) (W.bind (W.forL (rng 0 ((order_).length : Int)) (found_, many_) (fun a s => m_law_spots_L1 order_ a s.1 s.2)) (fun s => (fun found_ many_ => W.ret found_) s.1 s.2))
def m_law_note (bag_ : (H5 (List Int) Int Int Int Int)) (counts_ : (List Int)) : W ((Option (P4 Int Int Int Int)) × (H5 (List Int) Int Int Int Int)) :=
  W.guard (rngOk 0 ((counts_).length : Int)) (W.bind (compG (rng 0 ((counts_).length : Int)) (fun hand_ => W.bind (W.opt (atI counts_ hand_)) fun t3 => W.ret (decide (t3 > (0 : Int)))) (fun hand_ => W.ret hand_)) fun t8 => W.bind (W.ret t8) fun some_ => W.ite (decide (((some_).length : Int) < (2 : Int))) (W.ret ((none : (Option (P4 Int Int Int Int))), bag_)) (W.bind2 (m_law_draw bag_ ((some_).length : Int)) fun t13 bag_ => W.bind (W.ret t13) fun i_ => W.bind2 (m_law_draw bag_ (((some_).length : Int) - (1 : Int))) fun t17 bag_ => W.guard (0 < ((some_).length : Int)) (W.bind (W.ret (((i_ + (1 : Int)) + t17) % ((some_).length : Int))) fun j_ => W.bind (W.opt (atI some_ i_)) fun t21 => W.bind (W.opt (atI some_ i_)) fun t23 => W.bind (W.opt (atI counts_ t23)) fun t25 => W.bind2 (m_law_draw bag_ t25) fun t27 bag_ => W.bind (W.opt (atI some_ j_)) fun t31 => W.bind (W.opt (atI some_ j_)) fun t33 => W.bind (W.opt (atI counts_ t33)) fun t35 => W.bind2 (m_law_draw bag_ t35) fun t37 bag_ => W.ret ((some (⟨t21, t27, t31, t37⟩ : (P4 Int Int Int Int))), bag_))))
def m_law_record_L1 (mode_ : Int) (counts_ : (List Int)) (spots_ : (Dc (Int × Int) Int)) (step_ : Int) (bag_ : (H5 (List Int) Int Int Int Int)) (ties_ : (List (P4 Int Int Int Int))) : W ((H5 (List Int) Int Int Int Int) × (List (P4 Int Int Int Int))) :=
  W.bind2 (m_law_note bag_ counts_) fun t36 bag_ => W.bind (W.ret t36) fun note_ => W.bind (W.ite (decide (mode_ = (1 : Int))) (W.ret (true, bag_)) (W.bind (W.ite (decide (mode_ = (2 : Int))) (W.bind2 (m_law_draw bag_ (8 : Int)) fun t40 bag_ => W.ret ((decide (t40 > (0 : Int))), bag_)) (W.ret (false, bag_))) (fun s => (fun t44 bag_ => W.ret (t44, bag_)) s.1 s.2))) (fun s => (fun t48 bag_ => W.bind (W.ret t48) fun along_ => W.guard (∀ b, note_ = some b → toPy b ≠ .none) (W.bind (W.ite (note_.isSome) (W.bind (W.ite along_ (W.bind (W.opt note_) fun t52 => W.bind (W.opt (valM spots_ (t52.a, t52.b))) fun t56 => W.bind (W.opt note_) fun t58 => W.bind (W.opt (valM spots_ (t58.c, t58.d))) fun t62 => W.ret (decide (t56 > t62))) (W.ret false)) (fun t64 => W.bind (W.ite t64 (W.bind (W.opt note_) fun t68 => W.bind (W.opt note_) fun t72 => W.bind (W.ret (some (⟨(t68.c, t68.d).1, (t68.c, t68.d).2, (t72.a, t72.b).1, (t72.a, t72.b).2⟩ : (P4 Int Int Int Int)))) fun note_ => W.ret (note_)) (W.ret (note_))) (fun s => (fun note_ => W.bind2 (m_law_draw bag_ (((ties_).length : Int) + (1 : Int))) fun t79 bag_ => W.bind (W.opt note_) fun t83 => W.bind (insL ties_ t79 t83) fun ties_ => W.ret ((bag_, ties_, note_))) s))) (W.ret ((bag_, ties_, note_)))) (fun s => (fun bag_ ties_ note_ => W.ret ((bag_, ties_))) s.1 s.2.1 s.2.2))) s.1 s.2)
def m_law_record_R1 (twice_ : Int) (counts_ : (List Int)) (bag_ : (H5 (List Int) Int Int Int Int)) (ties_ : (List (P4 Int Int Int Int))) : W (((List Int) × (List (P4 Int Int Int Int))) × (H5 (List Int) Int Int Int Int)) :=
  W.bind (W.ite (decide (twice_ = (2 : Int))) (W.guard (okD ties_ ∧ okD ([] : (List (P4 Int Int Int Int)))) (W.ret (!eqD ties_ ([] : (List (P4 Int Int Int Int)))))) (W.ret false)) (fun t91 => W.bind (W.ite t91 (W.bind2 (m_law_draw bag_ (((ties_).length : Int) + (1 : Int))) fun t95 bag_ => W.bind2 (m_law_draw bag_ ((ties_).length : Int)) fun t99 bag_ => W.bind (W.opt (atI ties_ t99)) fun t103 => W.bind (insL ties_ t95 t103) fun ties_ => W.ret ((bag_, ties_))) (W.ret ((bag_, ties_)))) (fun s => (fun bag_ ties_ => W.ret ((counts_, ties_), bag_)) s.1 s.2))
def m_law_record (bag_ : (H5 (List Int) Int Int Int Int)) (great_ : Int) : W (((List Int) × (List (P4 Int Int Int Int))) × (H5 (List Int) Int Int Int Int)) :=
  W.bind2 (m_law_draw bag_ (3 : Int)) fun t1 bag_ => W.bind (W.ret t1) fun mode_ => W.bind2 (m_law_draw bag_ (3 : Int)) fun t5 bag_ => W.bind (W.ret t5) fun twice_ => W.bind2 (m_law_counts bag_ great_) fun t9 bag_ => W.bind (W.ret t9) fun counts_ => W.bind2 (m_law_order bag_ counts_) fun t13 bag_ => W.bind (m_law_spots t13) fun t17 => W.bind (W.ret t17) fun spots_ => W.bind (W.ret ([] : (List (P4 Int Int Int Int)))) fun ties_ => W.bind (W.opt (atI ([(13 : Int), (41 : Int)] : (List Int)) great_)) fun t29 => W.bind2 (m_law_draw bag_ t29) fun t31 bag_ => W.guard (rngOk 0 t31) (W.bind (W.forL (rng 0 t31) (bag_, ties_) (fun a s => m_law_record_L1 mode_ counts_ spots_ a s.1 s.2)) (fun s => m_law_record_R1 twice_ counts_ s.1 s.2))
def m_law_copy (record_ : ((List Int) × (List (P4 Int Int Int Int)))) : W (((List Int) × (List (P4 Int Int Int Int)))) :=
  W.bind (W.ret record_.1) fun record__0_ => W.bind (W.ret record_.2) fun record__1_ => W.ret (record__0_, record__1_)
def m_law_ring_in_L1 (step_ : Int) (bag_ : (H5 (List Int) Int Int Int Int)) (some_ : (List Int)) (hands_ : (List Int)) : W ((H5 (List Int) Int Int Int Int) × (List Int) × (List Int)) :=
  W.bind2 (m_law_draw bag_ ((some_).length : Int)) fun t30 bag_ => W.bind (popI some_ t30) fun q => (fun t34 some_ => W.bind (apd hands_ t34) fun hands_ => W.ret ((bag_, some_, hands_))) q.1 q.2
def m_law_ring_in_L2 (hands_ : (List Int)) (leaves_ : (List Int)) (comes_ : (List Int)) (j_ : Int) (bag_ : (H5 (List Int) Int Int Int Int)) (ties_ : (List (P4 Int Int Int Int))) (loop_ : (List (P4 Int Int Int Int))) : W ((H5 (List Int) Int Int Int Int) × (List (P4 Int Int Int Int)) × (List (P4 Int Int Int Int))) :=
  W.guard (0 < ((hands_).length : Int)) (W.bind (W.ret ((j_ + (1 : Int)) % ((hands_).length : Int))) fun to_ => W.bind (W.opt (atI hands_ j_)) fun t87 => W.bind (W.opt (atI leaves_ j_)) fun t89 => W.bind (W.opt (atI hands_ to_)) fun t91 => W.bind (W.opt (atI comes_ to_)) fun t93 => W.bind (apd loop_ (⟨t87, t89, t91, t93⟩ : (P4 Int Int Int Int))) fun loop_ => W.bind2 (m_law_draw bag_ (((ties_).length : Int) + (1 : Int))) fun t97 bag_ => W.bind (W.opt (atI loop_ (-(1 : Int)))) fun t101 => W.bind (insL ties_ t97 t101) fun ties_ => W.ret ((bag_, ties_, loop_)))
def m_law_ring_in_R1 (bag_ : (H5 (List Int) Int Int Int Int)) (counts_ : (List Int)) (ties_ : (List (P4 Int Int Int Int))) (hands_ : (List Int)) (leaves_ : (List Int)) (comes_ : (List Int)) : W ((List (P4 Int Int Int Int)) × (H5 (List Int) Int Int Int Int) × ((List Int) × (List (P4 Int Int Int Int)))) :=
  W.bind (W.ret ([] : (List (P4 Int Int Int Int)))) fun loop_ => W.guard (rngOk 0 ((hands_).length : Int)) (W.bind (W.forL (rng 0 ((hands_).length : Int)) (bag_, ties_, loop_) (fun a s => m_law_ring_in_L2 hands_ leaves_ comes_ a s.1 s.2.1 s.2.2)) (fun s => (fun bag_ ties_ loop_ => W.ret (loop_, bag_, (counts_, ties_))) s.1 s.2.1 s.2.2))
def m_law_ring_in_R2 (near_ : Bool) (counts_ : (List Int)) (ties_ : (List (P4 Int Int Int Int))) (bag_ : (H5 (List Int) Int Int Int Int)) (some_ : (List Int)) (hands_ : (List Int)) : W ((List (P4 Int Int Int Int)) × (H5 (List Int) Int Int Int Int) × ((List Int) × (List (P4 Int Int Int Int)))) :=
  W.bind (compSG hands_ bag_ (fun a s => (fun hand_ => (fun bag_ => W.bind (W.opt (atI counts_ hand_)) fun t39 => W.bind2 (m_law_draw bag_ t39) fun t41 bag_ => W.ret (some t41, bag_)) s) a)) fun q => (fun t48 bag_ => W.bind (W.ret t48) fun leaves_ => W.bind (compSG leaves_ bag_ (fun a s => (fun k_ => (fun bag_ => W.bind2 (m_law_draw bag_ (k_ + (1 : Int))) fun t55 bag_ => W.ret (some t55, bag_)) s) a)) fun q => (fun t62 bag_ => W.bind (W.ret t62) fun comes_ => W.bind2 (m_law_draw bag_ ((hands_).length : Int)) fun t65 bag_ => W.bind (W.ret t65) fun at_ => W.bind (W.ite near_ (W.bind (W.opt (atI leaves_ at_)) fun t69 => W.bind (W.opt (atI hands_ at_)) fun t71 => W.bind (W.opt (atI counts_ t71)) fun t73 => W.ret (decide ((t69 + (1 : Int)) < t73))) (W.ret false)) (fun t75 => W.bind (W.ite t75 (W.bind (W.opt (atI leaves_ at_)) fun t79 => W.bind (sti comes_ at_ (t79 + (1 : Int))) fun comes_ => W.ret (comes_)) (W.ret (comes_))) (fun s => m_law_ring_in_R1 bag_ counts_ ties_ hands_ leaves_ s))) q.1 q.2) q.1 q.2
def m_law_ring_in (bag_ : (H5 (List Int) Int Int Int Int)) (record_ : ((List Int) × (List (P4 Int Int Int Int)))) (near_ : Bool) : W ((List (P4 Int Int Int Int)) × (H5 (List Int) Int Int Int Int) × ((List Int) × (List (P4 Int Int Int Int)))) :=
  W.bind (W.ret record_.1) fun record__0_ => W.bind (W.ret record_.2) fun record__1_ => W.bind (W.ret record__0_) fun counts_ => W.bind (W.ret record__1_) fun ties_ => W.guard (rngOk 0 ((counts_).length : Int)) (W.bind (compG (rng 0 ((counts_).length : Int)) (fun hand_ => W.bind (W.opt (atI counts_ hand_)) fun t4 => W.ret (decide (t4 > (0 : Int)))) (fun hand_ => W.ret hand_)) fun t9 => W.bind (W.ret t9) fun some_ => W.ite (decide (((some_).length : Int) < (2 : Int))) (W.ret (([] : (List (P4 Int Int Int Int))), bag_, (counts_, ties_))) (W.bind (W.ret ([] : (List Int))) fun hands_ => W.bind2 (m_law_draw bag_ (((some_).length : Int) - (1 : Int))) fun t25 bag_ => W.guard (rngOk 0 ((2 : Int) + t25)) (W.bind (W.forL (rng 0 ((2 : Int) + t25)) (bag_, some_, hands_) (fun a s => m_law_ring_in_L1 a s.1 s.2.1 s.2.2)) (fun s => m_law_ring_in_R2 near_ counts_ ties_ s.1 s.2.1 s.2.2))))
def m_law_leads (tie_ : (P4 Int Int Int Int)) (later_ : (P4 Int Int Int Int)) : W (Bool) :=
  W.ret ((decide (tie_.c = later_.a)) && (decide (tie_.d ≤ later_.b)))
def m_law_least_L1 (here_ : (P4 Int Int Int Int)) (later_ : (P4 Int Int Int Int)) (steps_ : (Dc (P4 Int Int Int Int) Int)) (row_ : (List (P4 Int Int Int Int))) : W ((Dc (P4 Int Int Int Int) Int) × (List (P4 Int Int Int Int))) :=
  W.bind (W.ite (!(valM steps_ later_).isSome) (W.bind (m_law_leads here_ later_) fun t18 => W.ret t18) (W.ret false)) (fun t22 => W.bind (W.ite t22 (W.bind (W.opt (valM steps_ here_)) fun t26 => W.bind (putG steps_ later_ (t26 + (1 : Int))) fun steps_ => W.bind (apd row_ later_) fun row_ => W.ret ((steps_, row_))) (W.ret ((steps_, row_)))) (fun s => (fun steps_ row_ => W.ret ((steps_, row_))) s.1 s.2))
def m_law_least_L2 (ties_ : (List (P4 Int Int Int Int))) (first_ : (P4 Int Int Int Int)) (steps_ : (Dc (P4 Int Int Int Int) Int)) (row_ : (List (P4 Int Int Int Int))) (at_ : Int) : W (Ctl Int ((Dc (P4 Int Int Int Int) Int) × (List (P4 Int Int Int Int)) × Int)) :=
  W.ite (decide (at_ < ((row_).length : Int))) (W.bind (W.opt (atI row_ at_)) fun t9 => W.bind (W.ret t9) fun here_ => W.bind (W.ret (at_ + (1 : Int))) fun at_ => W.bind (m_law_leads here_ first_) fun t11 => W.ite t11 (W.bind (W.opt (valM steps_ here_)) fun t15 => W.ret (Ctl.rt t15)) (W.bind (W.forL ties_ (steps_, row_) (fun a s => m_law_least_L1 here_ a s.1 s.2)) (fun s => (fun steps_ row_ => W.ret (Ctl.nx (steps_, row_, at_))) s.1 s.2))) (W.ret (Ctl.bk (steps_, row_, at_)))
def m_law_least (ties_ : (List (P4 Int Int Int Int))) (first_ : (P4 Int Int Int Int)) : W (Int) :=
  W.bind (W.ret ([(first_, (1 : Int))] : (Dc (P4 Int Int Int Int) Int))) fun steps_ => W.bind (W.ret ([first_] : (List (P4 Int Int Int Int)))) fun row_ => W.bind (W.ret (0 : Int)) fun at_ => W.bind (W.whileL (steps_, row_, at_) (fun s => m_law_least_L2 ties_ first_ s.1 s.2.1 s.2.2)) fun c => W.after c (fun s => (fun steps_ row_ at_ => W.ret (0 : Int)) s.1 s.2.1 s.2.2)
def m_law_fewest (ties_ : (List (P4 Int Int Int Int))) : W (Int) :=
  W.guard ((ties_).length < 4000) (W.bind (W.ret (srtK (ddK ties_))) fun some_ => W.bind (compG some_ (fun first_ => W.ret true) (fun first_ => W.bind (m_law_least some_ first_) fun t9 => W.ret t9)) fun t16 => W.bind (W.ret t16) fun found_ => W.bind (compG found_ (fun many_ => W.ret (decide (many_ > (0 : Int)))) (fun many_ => W.ret many_)) fun t26 => W.ret (mnD t26 (0 : Int)))
def m_law_goes_round_L1 (found_ : (List (P4 Int Int Int Int))) (record__1_ : (List (P4 Int Int Int Int))) (at_ : Int) : W (Ctl Bool (Unit)) :=
  W.bind (W.opt (atI found_ at_)) fun t10 => W.bind (W.ite (!true) (W.ret true) (W.bind (W.opt (atI found_ at_)) fun t12 => W.guard (okD t12 ∧ okD record__1_) (W.ret (!inD t12 record__1_)))) (fun t14 => W.ite t14 (W.ret (Ctl.rt false)) (W.bind (W.opt (atI found_ at_)) fun t18 => W.bind (compG ([t18.a, t18.b, t18.c, t18.d] : (List Int)) (fun part_ => W.ret false) (fun part_ => W.ret part_)) fun t25 => W.guard (okD t25 ∧ okD ([] : (List Int))) (W.ite (!eqD t25 ([] : (List Int))) (W.ret (Ctl.rt false)) (W.bind (W.opt (atI found_ at_)) fun t32 => W.guard (0 < ((found_).length : Int)) (W.bind (W.opt (atI found_ ((at_ + (1 : Int)) % ((found_).length : Int)))) fun t34 => W.bind (m_law_leads t32 t34) fun t36 => W.ite (!t36) (W.ret (Ctl.rt false)) (W.ret (Ctl.nx ())))))))
def m_law_goes_round (record_ : ((List Int) × (List (P4 Int Int Int Int)))) (found_ : (List (P4 Int Int Int Int))) : W (Bool) :=
  W.bind (W.ret record_.1) fun record__0_ => W.bind (W.ret record_.2) fun record__1_ => W.bind (W.ite (!true) (W.ret true) (W.guard (okD found_ ∧ okD ([] : (List (P4 Int Int Int Int)))) (W.ret (eqD found_ ([] : (List (P4 Int Int Int Int))))))) (fun t5 => W.ite t5 (W.ret false) (W.guard (rngOk 0 ((found_).length : Int)) (W.bind (W.forC (rng 0 ((found_).length : Int)) () (fun a s => m_law_goes_round_L1 found_ record__1_ a)) fun c => W.after c (fun _ => W.ret true))))
def m_law_keeps (record_ : ((List Int) × (List (P4 Int Int Int Int)))) (order_ : (List Int)) : W (Bool) :=
  W.bind (W.ret record_.1) fun record__0_ => W.bind (W.ret record_.2) fun record__1_ => W.bind (W.ite (!true) (W.ret true) (W.ret (!decide (((order_).length : Int) = ((record__0_).sum))))) (fun t1 => W.ite t1 (W.ret false) (W.guard (rngOk 0 ((record__0_).length : Int)) (W.bind (compG (rng 0 ((record__0_).length : Int)) (fun hand_ => W.ret true) (fun hand_ => W.ret (cntZ order_ hand_))) fun t10 => W.guard (okD t10 ∧ okD record__0_) (W.ite (!eqD t10 record__0_) (W.ret false) (W.bind (m_law_spots order_) fun t13 => W.bind (W.ret t13) fun spots_ => W.bind (compG record__1_ (fun tie_ => W.bind (W.opt (valM spots_ (tie_.a, tie_.b))) fun t21 => W.bind (W.opt (valM spots_ (tie_.c, tie_.d))) fun t25 => W.ret (decide (t21 > t25))) (fun tie_ => W.ret tie_)) fun t30 => W.guard (okD t30 ∧ okD ([] : (List (P4 Int Int Int Int)))) (W.ret (eqD t30 ([] : (List (P4 Int Int Int Int))))))))))
def m_law_R1 (bag_ : (H5 (List Int) Int Int Int Int)) (record__0_ : (List Int)) (record__1_ : (List (P4 Int Int Int Int))) : W (Bool) :=
  W.bind (m_law_copy (record__0_, record__1_)) fun t26 => W.bind (W.ret t26) fun handed_ => W.bind (W.ret handed_.1) fun handed__0_ => W.bind (W.ret handed_.2) fun handed__1_ => W.bind (m_first_order (handed__0_, handed__1_)) fun t31 => W.bind (W.ret t31) fun order_ => W.bind (m_ring (handed__0_, handed__1_)) fun t35 => W.bind (W.ret t35) fun found_ => W.guard (okD (handed__0_, handed__1_) ∧ okD (record__0_, record__1_)) (W.ite (!eqD (handed__0_, handed__1_) (record__0_, record__1_)) (W.ret false) (W.guard (∀ b, found_ = some b → toPy b ≠ .none) (W.ite (found_.isNone) (W.guard (∀ b, order_ = some b → toPy b ≠ .none) (W.bind (W.ite (order_.isSome) (W.bind (W.opt order_) fun t39 => W.bind (m_law_keeps (record__0_, record__1_) t39) fun t41 => W.bind (W.ite t41 (W.bind (m_law_fewest record__1_) fun t45 => W.ret (decide (t45 = (0 : Int)))) (W.ret false)) (fun t49 => W.ret t49)) (W.ret false)) (fun t53 => W.ret t53))) (W.guard (∀ b, order_ = some b → toPy b ≠ .none) (W.bind (W.ite (order_.isSome) (W.ret true) (W.bind (W.opt found_) fun t57 => W.bind (m_law_goes_round (record__0_, record__1_) t57) fun t59 => W.bind (W.ite (!t59) (W.ret true) (W.bind (W.opt found_) fun t63 => W.bind (m_law_fewest record__1_) fun t65 => W.ret (!decide (((t63).length : Int) = t65)))) (fun t69 => W.ret t69))) (fun t73 => W.ite t73 (W.ret false) (W.bind (W.opt found_) fun t77 => W.bind (m_ring_shows (handed__0_, handed__1_) t77) fun t83 => W.bind (W.ite (!decide (t83 = true)) (W.ret true) (W.bind (W.opt found_) fun t87 => W.bind (m_ring_shows (handed__0_, handed__1_) (Z.cut t87 (some (1 : Int)) none)) fun t93 => W.ret (!decide (t93 = false)))) (fun t97 => W.ite t97 (W.ret false) (W.bind (W.opt found_) fun t101 => W.bind (W.ret t101) fun held_ => W.bind (W.opt found_) fun t107 => W.bind (W.ret t107) fun found_ => W.bind (W.ret ([] : (List (P4 Int Int Int Int)))) fun found_ => W.bind (m_ring (handed__0_, handed__1_)) fun t110 => W.guard (okD t110 ∧ okD held_) (W.ret (eqD t110 held_)))))))))))
def m_law (script_ : (List Int)) : W (Bool) :=
  W.bind (m_law_bag script_) fun t1 => W.bind (W.ret t1) fun bag_ => W.bind2 (m_law_draw bag_ (8 : Int)) fun t5 bag_ => W.bind (W.ret (if (decide (t5 = (7 : Int))) then (1 : Int) else 0)) fun great_ => W.bind2 (m_law_draw bag_ (2 : Int)) fun t9 bag_ => W.bind (W.ret t9) fun planted_ => W.bind2 (m_law_record bag_ great_) fun t13 bag_ => W.bind (W.ret t13) fun record_ => W.bind (W.ret record_.1) fun record__0_ => W.bind (W.ret record_.2) fun record__1_ => W.bind (W.ite (decide (planted_ = (1 : Int))) (W.bind (m_law_ring_in bag_ (record__0_, record__1_) false) fun s => (fun t21 bag_ record_ => W.bind (W.ret record_.1) fun record__0_ => W.bind (W.ret record_.2) fun record__1_ => W.ret ((bag_, record__0_, record__1_))) s.1 s.2.1 s.2.2) (W.ret ((bag_, record__0_, record__1_)))) (fun s => m_law_R1 s.1 s.2.1 s.2.2)
end M
/-! # general ways -/
namespace M
open PySem L2 Z
theorem rng_mem {a b x : Int} : x ∈ rng a b ↔ a ≤ x ∧ x < b := by
  unfold rng
  rw [List.mem_map]
  constructor
  · rintro ⟨k, hk, rfl⟩
    rw [List.mem_range] at hk
    omega
  · rintro ⟨h1, h2⟩
    exact ⟨(x - a).toNat, by rw [List.mem_range]; omega, by omega⟩
theorem rng_pw (a b : Int) : (rng a b).Pairwise (· < ·) := by
  unfold rng
  rw [List.pairwise_map]
  exact List.pairwise_lt_range.imp fun h => by omega
theorem take_snocN {α : Type} {xs : List α} {i : Nat} {x : α} (h : xs[i]? = some x) : xs.take (i + 1) = xs.take i ++ [x] := by
  rw [List.take_add_one, h]
  rfl
theorem at_head {α : Type} {x : α} {l : List α} : atI (x :: l) (0 : Int) = some x := atI_nat (j := 0) rfl
theorem at_last {α : Type} {x : α} {l : List α} : atI (l ++ [x]) (-(1 : Int)) = some x := atI_last l x
/-- a loop that is left at last -/
theorem while_wp {S ρ : Type} (Inv : S → Prop) (μ : S → Nat) {s : S} {f : S → W (Ctl ρ S)} {Φ : Ctl ρ S → Prop} (h0 : Inv s)
    (step : ∀ s, Inv s → (f s).run (CtlP (fun s' => Inv s' ∧ μ s' < μ s) (fun s' => Φ (.nx s')) (fun r => Φ (.rt r)))) : (W.whileL s f).run Φ := by
  have key : ∀ m s, Inv s → μ s < m → (W.whileN m s f).run Φ := by
    intro m
    induction m with
    | zero => intro s _ h; omega
    | succ m ih =>
      intro s hs hm
      show (W.bind (f s) _).run Φ
      rw [run_bind]
      refine run_mono (step s hs) fun c hc => ?_
      cases c with
      | nx s' => exact ih s' hc.1 (by have := hc.2; omega)
      | bk s' => exact hc
      | rt r => exact hc
  exact ⟨μ s + 1, key _ s h0 (Nat.lt_succ_self _)⟩
/-- a loop that is left where a test holds -/
theorem forC_any {α ρ : Type} {xs : List α} {f : α → Unit → W (Ctl ρ Unit)} (t : α → Bool) (r : ρ) {Φ : Ctl ρ Unit → Prop} (hf : ∀ x ∈ xs, ∀ Ψ : Ctl ρ Unit → Prop, Ψ (if t x = true then .rt r else .nx ()) → (f x ()).run Ψ)
    (k : Φ (if xs.any t = true then .rt r else .nx ())) : (W.forC xs () f).run Φ := by
  induction xs with
  | nil => exact k
  | cons x xs ih =>
    show (W.bind (f x ()) _).run Φ
    rw [run_bind]
    refine hf x List.mem_cons_self _ ?_
    rw [List.any_cons] at k
    by_cases c : t x = true
    · rw [if_pos c]
      rw [c, Bool.true_or, if_pos rfl] at k
      exact k
    · rw [if_neg c]
      rw [Bool.not_eq_true] at c
      rw [c, Bool.false_or] at k
      exact ih (fun y hy => hf y (List.mem_cons_of_mem _ hy)) k
theorem popI_wp {α : Type} {xs : List α} {i : Nat} {Φ : α × List α → Prop} (h : i < xs.length) (hl : xs.length ≤ 100000) (k : Φ (xs[i], xs.eraseIdx i)) : (popI xs (i : Int)).run Φ :=
  ⟨⟨by omega, by omega⟩, i, by rw [ixN_nat' (by omega) (by omega), Int.toNat_natCast], xs[i], List.getElem?_eq_getElem h, k⟩
theorem mnD_cases (xs : List Int) (d : Int) : (xs = [] ∧ mnD xs d = d) ∨ (mnD xs d ∈ xs ∧ ∀ y ∈ xs, mnD xs d ≤ y) := by
  cases xs with
  | nil => exact .inl ⟨rfl, rfl⟩
  | cons x xs => exact .inr (mnF xs x)
/-- a comprehension that carries a state -/
theorem compSG_wp {α β S : Type} {xs : List α} {s : S} {f : α → S → W (Option β × S)} (Inv : Nat → S → List β → Prop) {Φ : List β × S → Prop} (hl : xs.length ≤ sizeLine) (h0 : Inv 0 s [])
    (step : ∀ i x s acc, xs[i]? = some x → Inv i s acc → (f x s).run fun r => match r.1 with | none => Inv (i + 1) r.2 acc | some y => Inv (i + 1) r.2 (acc ++ [y])) (k : ∀ s acc, Inv xs.length s acc → Φ (acc, s)) : (compSG xs s f).run Φ := by
  refine ⟨hl, ?_⟩
  have key : ∀ (ys : List α) (i : Nat) (s : S) (acc : List β), (∀ j x, ys[j]? = some x → xs[i + j]? = some x) → i + ys.length = xs.length → Inv i s acc → (compS ys acc s f).run Φ := by
    intro ys
    induction ys with
    | nil =>
      intro i s acc _ e h
      exact k s acc (by rw [← e]; exact h)
    | cons y ys ih =>
      intro i s acc hx e h
      show (W.bind (f y s) _).run Φ
      rw [run_bind]
      refine run_mono (step i y s acc (hx 0 y rfl) h) fun r hr => ?_
      obtain ⟨o, s'⟩ := r
      have hx' : ∀ j x, ys[j]? = some x → xs[i + 1 + j]? = some x := fun j x q => by rw [Nat.add_right_comm]; exact hx (j + 1) x q
      have e' : i + 1 + ys.length = xs.length := by rw [← e]; simp; omega
      cases o with
      | none => exact ih (i + 1) s' acc hx' e' hr
      | some z => exact ih (i + 1) s' (acc ++ [z]) hx' e' hr
  exact key xs 0 s [] (fun j x q => by rw [Nat.zero_add]; exact q) (by omega) h0
end M
/-! # dicts as lists of pairs -/
namespace M
open PySem L2 Z
section
variable {κ α : Type} [DecidableEq κ]
theorem valM_cons {k j : κ} {a : α} {m : Dc κ α} : valM ((k, a) :: m) j = if k = j then some a else valM m j := by
  unfold valM
  rw [List.find?_cons]
  by_cases c : k = j <;> simp [c]
theorem valM_map {k j : κ} {a : α} : ∀ {m : Dc κ α}, valM (m.map fun p => if p.1 = k then (p.1, a) else p) j = (valM m j).map fun x => if j = k then a else x
  | [] => rfl
  | (q, b) :: m => by
    have ih := valM_map (k := k) (j := j) (a := a) (m := m)
    rw [List.map_cons]
    by_cases c : q = k
    · rw [if_pos c, valM_cons, valM_cons]
      by_cases d : q = j
      · rw [if_pos d, if_pos d, Option.map_some, if_pos (d.symm.trans c)]
      · rw [if_neg d, if_neg d, ih]
    · rw [if_neg c, valM_cons, valM_cons]
      by_cases d : q = j
      · rw [if_pos d, if_pos d, Option.map_some, if_neg (fun e => c (d.trans e))]
      · rw [if_neg d, if_neg d, ih]
theorem valM_snoc {k j : κ} {a : α} : ∀ {m : Dc κ α}, valM m k = none → valM (m ++ [(k, a)]) j = if j = k then some a else valM m j
  | [], _ => by
    rw [List.nil_append, valM_cons]
    by_cases c : k = j
    · rw [if_pos c, if_pos c.symm]
    · rw [if_neg c, if_neg (fun e => c e.symm)]
  | (q, b) :: m, h => by
    rw [valM_cons] at h
    by_cases c : q = k
    · rw [if_pos c] at h; cases h
    · rw [if_neg c] at h
      rw [List.cons_append, valM_cons, valM_cons, valM_snoc h]
      by_cases d : q = j
      · rw [if_pos d, if_pos d, if_neg (fun e => c (d.trans e))]
      · rw [if_neg d, if_neg d]
theorem anyM {k : κ} : ∀ {m : Dc κ α}, (m.any fun p => decide (p.1 = k)) = (valM m k).isSome
  | [] => rfl
  | (q, b) :: m => by
    rw [List.any_cons, anyM, valM_cons]
    by_cases c : q = k
    · simp [c]
    · simp [c]
theorem valM_put {k j : κ} {a : α} {m : Dc κ α} : valM (putM m k a) j = if j = k then some a else valM m j := by
  unfold putM
  rw [anyM]
  cases e : valM m k with
  | none => exact valM_snoc e
  | some b =>
    show valM (m.map fun p => if p.1 = k then (p.1, a) else p) j = _
    rw [valM_map]
    by_cases c : j = k
    · subst c
      rw [e, if_pos rfl, Option.map_some, if_pos rfl]
    · rw [if_neg c]
      cases valM m j with
      | none => rfl
      | some x => simp [c]
theorem putM_len {k : κ} {a : α} {m : Dc κ α} : (putM m k a).length ≤ m.length + 1 := by
  unfold putM
  split
  · rw [List.length_map]; omega
  · rw [List.length_append]; exact Nat.le_refl _
theorem putG_wp {k : κ} {a : α} {m : Dc κ α} {Φ : Dc κ α → Prop} (h : m.length ≤ 100000) (q : Φ (putM m k a)) : (putG m k a).run Φ := ⟨small' h, q⟩
end
end M
/-! # the bag: draws, records -/
namespace M
open PySem L2 Z
abbrev Bag := H5 (List Int) Int Int Int Int
abbrev NT4 := P4 Int Int Int Int
def BagOk (B : Nat) (s : Bag) : Prop := 0 ≤ s.b ∧ s.b ≤ s.a.length ∧ 0 ≤ s.d ∧ s.d ≤ B ∧ 0 ≤ s.e ∧ s.e < 2305843009213693951
theorem BagOk.mo {B C : Nat} {s : Bag} (h : BagOk B s) (hc : B ≤ C) : BagOk C s := ⟨h.1, h.2.1, h.2.2.1, by have := h.2.2.2.1; omega, h.2.2.2.2⟩
theorem cpow18 : CPow (10 : Int) (18 : Int) := by unfold CPow; decide
theorem stir_wp {n p : Int} {Φ : Int → Prop} (hn0 : 0 ≤ n) (hn : n < 2305843009213693951) (hp0 : 0 ≤ p) (hp : p < 2 ^ 41) (k : ∀ x, Φ x) : (m_law_stir n p).run Φ := by
  unfold m_law_stir
  simp only [run_bind, run_rt, run_guard]
  have p0 : (0 : Int) < 2305843009213693951 := by decide
  refine ⟨wide_mul (a := 61) (b := 30) (by omega) (by decide) (by decide) (by decide) (by decide), wide_mul (a := 41) (b := 30) (by omega) (by decide) (by decide) (by decide) (by decide), ?_⟩
  have o1 := Int.emod_nonneg (n * 998244353 + p * 1000000007 + 5) (b := 2305843009213693951) (by decide)
  have o2 := Int.emod_lt_of_pos (n * 998244353 + p * 1000000007 + 5) p0
  generalize (n * 998244353 + p * 1000000007 + 5) % 2305843009213693951 = one at o1 o2 ⊢
  refine ⟨wide_mul (a := 61) (b := 61) (by omega) (by omega) (by decide) (by decide) (by decide), ?_⟩
  have t1 := Int.emod_nonneg (one * one) (b := 2305843009213693951) (by decide)
  have t2 := Int.emod_lt_of_pos (one * one) p0
  generalize (one * one) % 2305843009213693951 = two at t1 t2 ⊢
  have pp : (p * p).natAbs < 2 ^ 82 := by
    rw [Int.natAbs_mul]
    have : p.natAbs < 2 ^ 41 := by omega
    exact Nat.lt_of_lt_of_le (Nat.mul_lt_mul'' this this) (by decide)
  exact ⟨wide_mul (a := 61) (b := 32) (by omega) (by decide) (by decide) (by decide) (by decide), wide_mul (a := 41) (b := 41) (by omega) (by omega) (by decide) (by decide) (by decide), wide_mul (a := 82) (b := 16) pp (by decide) (by decide) (by decide) (by decide),
    wide_div (b := 2) (by decide) (by decide) (by decide) (by decide), wide_div (b := 11) (by decide) (by decide) (by decide) (by decide), k _⟩
theorem draw_wp {B : Nat} {s : Bag} {many : Int} {Φ : Int × Bag → Prop} (hs : BagOk B s) (hB : B < 2 ^ 40) (h0 : 0 < many) (hm : many < 2 ^ 100)
    (k : ∀ x s', 0 ≤ x → x < many → BagOk (B + 1) s' → Φ (x, s')) : (m_law_draw s many).run Φ := by
  obtain ⟨a, b, c, d, e⟩ := s
  obtain ⟨b0, b1, d0, d1, e0, e1⟩ := hs
  dsimp only at b0 b1 d0 d1 e0 e1
  have hmn : many.natAbs < 2 ^ 100 := by omega
  have cd : ∀ x : Int, CDivW x many := fun x => wide_div h0 hmn (by decide) (by decide)
  have lo : ∀ x : Int, 0 ≤ x % many := fun x => Int.emod_nonneg _ (by omega)
  have hi : ∀ x : Int, x % many < many := fun x => Int.emod_lt_of_pos _ h0
  unfold m_law_draw
  simp only [run_bind, run_rt, run_guard, run_if, run_opt, decide_eq_true_eq]
  split
  · exact k _ _ (Int.le_refl _) (by omega) ⟨b0, b1, d0, by show d ≤ ((B + 1 : Nat) : Int); omega, e0, e1⟩
  · by_cases hc : c < 2
    · rw [if_pos hc, if_pos hc]
      by_cases hb : b = (a.length : Int)
      · rw [if_pos hb]
        exact stir_wp e0 e1 (by omega) (by omega) fun x => ⟨h0, k _ _ (lo _) (hi _) ⟨b0, b1, by show 0 ≤ d + 1; omega, by show d + 1 ≤ ((B + 1 : Nat) : Int); omega, e0, e1⟩⟩
      · rw [if_neg hb]
        obtain ⟨cell, _, ec⟩ := atI_some (xs := a) (i := b) b0 (by omega)
        refine ⟨cell, ec, cpow18, ?_⟩
        have p0 : (0 : Int) < 2305843009213693951 := by decide
        split
        · refine stir_wp (Int.emod_nonneg _ (by decide)) (Int.emod_lt_of_pos _ p0) (by omega) (by omega) fun x => ⟨h0, ?_⟩
          simp only [W.after, run_rt]
          exact k _ _ (lo _) (hi _) ⟨by show 0 ≤ b + 1; omega, by show b + 1 ≤ (a.length : Int); omega, by show 0 ≤ d + 1; omega, by show d + 1 ≤ ((B + 1 : Nat) : Int); omega, e0, e1⟩
        · refine ⟨cpow18, ?_⟩
          simp only [W.after, run_rt, run_guard, run_bind]
          exact ⟨h0, cd _, k _ _ (lo _) (hi _) ⟨by show 0 ≤ b + 1; omega, by show b + 1 ≤ (a.length : Int); omega, by show 0 ≤ d + 1; omega, by show d + 1 ≤ ((B + 1 : Nat) : Int); omega, e0, e1⟩⟩
    · rw [if_neg hc, if_neg hc]
      simp only [Bool.false_eq_true, if_false, W.after, run_rt, run_guard, run_bind]
      exact ⟨h0, cd _, k _ _ (lo _) (hi _) ⟨b0, b1, by show 0 ≤ d + 1; omega, by show d + 1 ≤ ((B + 1 : Nat) : Int); omega, e0, e1⟩⟩
theorem bag_wp {ns : List Int} {Φ : Bag → Prop} (k : ∀ s, BagOk 0 s → Φ s) : (m_law_bag ns).run Φ := by
  unfold m_law_bag
  simp only [run_bind, run_rt]
  have p0 : (0 : Int) < 2305843009213693951 := by decide
  refine forL_wp (fun _ t => 0 ≤ t ∧ t < 2305843009213693951) ⟨by decide, by decide⟩ ?_ ?_
  · rintro i x t _ ⟨h1, h2⟩
    unfold m_law_bag_L1
    simp only [run_bind, run_rt, run_guard]
    exact ⟨wide_mul (a := 61) (b := 20) (by omega) (by decide) (by decide) (by decide) (by decide), Int.emod_nonneg _ (by decide), Int.emod_lt_of_pos _ p0⟩
  · rintro t ⟨h1, h2⟩
    exact k _ ⟨Int.le_refl _, by show (0 : Int) ≤ _; omega, Int.le_refl _, Int.le_refl _, h1, h2⟩
/-! lists by places -/
def lAt (l : List Int) (x : Int) : Int := l.getD x.toNat 0
theorem l_at {l : List Int} {x : Int} (h0 : 0 ≤ x) (h : x < l.length) : atI l x = some (lAt l x) := by
  refine atI_get' h0 ?_
  unfold lAt
  rw [List.getD_eq_getElem?_getD, List.getElem?_eq_getElem (by omega)]
  rfl
theorem lAt_mem {l : List Int} {x : Int} (h0 : 0 ≤ x) (h : x < l.length) : lAt l x ∈ l := by
  unfold lAt
  rw [List.getD_eq_getElem?_getD, List.getElem?_eq_getElem (by omega)]
  exact List.getElem_mem _
theorem lAt_set {l : List Int} {x y v : Int} (h0 : 0 ≤ x) (h : x < l.length) (hy : 0 ≤ y) : lAt (l.set x.toNat v) y = if y = x then v else lAt l y := by
  unfold lAt
  rw [List.getD_eq_getElem?_getD, List.getD_eq_getElem?_getD, List.getElem?_set]
  by_cases c : y = x
  · subst c
    rw [if_pos rfl, if_pos (by omega), if_pos rfl]
    rfl
  · rw [if_neg (by omega), if_neg c]
/-- counts -/
structure CtOk (cs : List Int) : Prop where
  len : cs.length ≤ 8
  nn : ∀ c ∈ cs, 0 ≤ c
  sum : cs.sum ≤ 300
theorem sum_le {n : Nat} {m : Int} (hm : 0 ≤ m) : ∀ {l : List Int}, (∀ c ∈ l, c ≤ m) → l.length ≤ n → l.sum ≤ n * m
  | [], _, _ => by simpa using Int.mul_nonneg (Int.natCast_nonneg n) hm
  | c :: l, h, hl => by
    cases n with
    | zero => simp at hl
    | succ n =>
      have := sum_le (n := n) hm (fun c hc => h c (List.mem_cons_of_mem _ hc)) (by simpa using hl)
      have := h c List.mem_cons_self
      rw [List.sum_cons]
      have e : ((n + 1 : Nat) : Int) * m = n * m + m := by rw [Int.natCast_add, Int.add_mul]; simp
      omega
theorem sum_nn : ∀ {l : List Int}, (∀ c ∈ l, 0 ≤ c) → 0 ≤ l.sum
  | [], _ => Int.le_refl _
  | c :: l, h => by
    have := sum_nn fun c hc => h c (List.mem_cons_of_mem _ hc)
    have := h c List.mem_cons_self
    rw [List.sum_cons]; omega
theorem le_sum : ∀ {l : List Int}, (∀ c ∈ l, 0 ≤ c) → ∀ {x}, x ∈ l → x ≤ l.sum
  | c :: l, h, x, hx => by
    have n := sum_nn fun c hc => h c (List.mem_cons_of_mem _ hc)
    have := h c List.mem_cons_self
    rw [List.sum_cons]
    rcases List.mem_cons.mp hx with rfl | q
    · omega
    · have := le_sum (fun c hc => h c (List.mem_cons_of_mem _ hc)) q; omega
theorem draws_wp {B : Nat} {s : Bag} {n top : Int} {Φ : List Int × Bag → Prop} (hs : BagOk B s) (hB : B < 2 ^ 39) (hn : n ≤ 8) (h0 : 0 < top) (hm : top < 2 ^ 60)
    (k : ∀ l s', l.length = n.toNat → (∀ c ∈ l, 0 ≤ c ∧ c < top) → BagOk (B + 8) s' → Φ (l, s')) : (compSG (rng 0 n) s (fun a s => (fun hand_ => (fun bag_ => W.bind2 (m_law_draw bag_ top) fun t13 bag_ => W.ret (some t13, bag_)) s) a)).run Φ := by
  refine compSG_wp (fun i s acc => BagOk (B + i) s ∧ acc.length = i ∧ ∀ c ∈ acc, 0 ≤ c ∧ c < top) (small (by rw [rng_len]; omega)) ⟨hs, rfl, by simp⟩ ?_ ?_
  · rintro i x s acc hx ⟨q1, q2, q3⟩
    have hi := (List.getElem?_eq_some_iff.mp hx).1
    rw [rng_len] at hi
    simp only [run_bind2, run_rt]
    refine draw_wp q1 (by omega) h0 (by omega) fun t s1 a1 a2 hs1 => ⟨hs1, by simp [q2], fun c hc => ?_⟩
    rcases List.mem_append.mp hc with z | z
    · exact q3 c z
    · rw [List.mem_singleton.mp z]; exact ⟨a1, a2⟩
  · rintro s acc ⟨q1, q2, q3⟩
    rw [rng_len] at q1 q2
    exact k acc s (by omega) q3 (q1.mo (by omega))
theorem counts_wp {B : Nat} {s : Bag} {great : Int} {Φ : List Int × Bag → Prop} (hs : BagOk B s) (hB : B < 2 ^ 38) (k : ∀ cs s', CtOk cs → BagOk (B + 10) s' → Φ (cs, s')) : (m_law_counts s great).run Φ := by
  unfold m_law_counts
  simp only [run_bind, run_bind2, run_rt, run_guard, run_if, run_opt]
  split
  · refine draw_wp hs (by omega) (by decide) (by decide) fun t s1 a1 a2 hs1 => ?_
    dsimp only
    obtain ⟨n, hn, en⟩ := atI_some (xs := [(3 : Int), 2, 4, 2, 3, 1, 0]) a1 (by simpa using a2)
    have hn4 : 0 ≤ n ∧ n ≤ 4 := by
      simp only [List.mem_cons, List.not_mem_nil, or_false] at hn
      omega
    refine ⟨n, en, ⟨by decide, by decide, by omega, by omega⟩, ?_⟩
    refine draws_wp hs1 (by omega) (by omega) (by decide) (by decide) fun l s2 l1 l2 hs2 => ?_
    refine k l s2 ⟨by omega, fun c hc => (l2 c hc).1, ?_⟩ (hs2.mo (by omega))
    have := sum_le (n := 8) (m := 6) (by decide) (fun c hc => by have := (l2 c hc).2; omega) (show l.length ≤ 8 by omega)
    omega
  · refine draw_wp hs (by omega) (by decide) (by decide) fun few s1 a1 a2 hs1 => ?_
    refine draw_wp hs1 (by omega) (by decide) (by decide) fun t s2 b1 b2 hs2 => ?_
    dsimp only
    generalize hmx : (if (8 : Int) - t > 1 then (8 : Int) - t else 1) = mx
    have hmx1 : 1 ≤ mx ∧ mx ≤ 8 ∧ 8 - t ≤ mx := by rw [← hmx]; split <;> omega
    refine ⟨wide_div (b := 4) (by omega) (by omega) (by decide) (by decide), ?_⟩
    obtain ⟨top, ht, et⟩ := atI_some (xs := [(300 : Int) / mx + 1, 4]) a1 (by simpa using a2)
    have hd : 0 ≤ (300 : Int) / mx := Int.ediv_nonneg (by decide) (by omega)
    have hd2 : (300 : Int) / mx ≤ 300 := Int.ediv_le_self _ (by decide)
    have hd3 : mx * ((300 : Int) / mx) ≤ 300 := Int.mul_ediv_self_le (by omega)
    refine ⟨top, et, ⟨by decide, by decide, by omega, by omega⟩, ?_⟩
    have htop : top = 300 / mx + 1 ∨ top = 4 := by simpa using ht
    refine draws_wp hs2 (by omega) (by omega) (by omega) (by omega) fun l s3 l1 l2 hs3 => ?_
    refine k l s3 ⟨by omega, fun c hc => (l2 c hc).1, ?_⟩ (hs3.mo (by omega))
    rcases htop with q | q
    · have := sum_le (n := mx.toNat) (m := 300 / mx) hd (fun c hc => by have := (l2 c hc).2; omega) (show l.length ≤ mx.toNat by omega)
      rw [Int.toNat_of_nonneg (by omega)] at this
      omega
    · have := sum_le (n := 8) (m := 3) (by decide) (fun c hc => by have := (l2 c hc).2; omega) (show l.length ≤ 8 by omega)
      omega
/-- how often -/
def cntI (h : Int) (l : List Int) : Nat := l.count h
theorem cntI_snoc {h x : Int} {l : List Int} : cntI h (l ++ [x]) = cntI h l + if x = h then 1 else 0 := by
  unfold cntI
  rw [List.count_append, List.count_singleton]
  by_cases c : x = h <;> simp [c]
theorem set_sum : ∀ {l : List Int} {n : Nat} {v : Int}, n < l.length → (l.set n v).sum = l.sum - l.getD n 0 + v
  | [], _, _, h => by simp at h
  | c :: l, 0, v, _ => by simp; omega
  | c :: l, n + 1, v, h => by
    have := set_sum (l := l) (n := n) (v := v) (by simpa using h)
    simp only [List.set_cons_succ, List.sum_cons, List.getD_cons_succ]
    omega
theorem pos_ex : ∀ {l : List Int}, 0 < l.sum → ∃ n, n < l.length ∧ 0 < l.getD n 0
  | [], h => by simp at h
  | c :: l, h => by
    by_cases q : 0 < c
    · exact ⟨0, by simp, by simpa using q⟩
    · rw [List.sum_cons] at h
      obtain ⟨n, h1, h2⟩ := pos_ex (l := l) (by omega)
      exact ⟨n + 1, by simp; omega, by simpa using h2⟩
theorem order_wp {B : Nat} {s : Bag} {cs : List Int} {Φ : List Int × Bag → Prop} (hs : BagOk B s) (hB : B < 2 ^ 38) (hc : CtOk cs)
    (k : ∀ os s', os.length ≤ 300 → (∀ x : Int, x ∈ os → 0 ≤ x ∧ x < cs.length) → (∀ h : Int, 0 ≤ h → h < cs.length → (cntI h os : Int) = lAt cs h) → BagOk (B + 300) s' → Φ (os, s')) : (m_law_order s cs).run Φ := by
  have hsum0 := sum_nn hc.nn
  have hsum := hc.sum
  unfold m_law_order
  simp only [run_bind, run_rt, run_guard]
  refine ⟨⟨by decide, by decide, by omega, by omega⟩, ?_⟩
  refine forL_wp (fun t q => BagOk (B + t) q.1 ∧ q.2.1.length = cs.length ∧ q.2.1.sum = cs.sum - t ∧ (∀ c ∈ q.2.1, 0 ≤ c) ∧ q.2.2.length = t ∧ (∀ x : Int, x ∈ q.2.2 → 0 ≤ x ∧ x < cs.length) ∧ ∀ h : Int, 0 ≤ h → h < cs.length → (cntI h q.2.2 : Int) + lAt q.2.1 h = lAt cs h)
    ⟨hs, rfl, by simp, hc.nn, rfl, by simp, fun h _ _ => by simp [cntI]⟩ ?_ ?_
  · rintro t x ⟨sp, left, os⟩ hx ⟨q1, q2, q3, q4, q5, q6, q7⟩
    dsimp only at q1 q2 q3 q4 q5 q6 q7
    have ht := (List.getElem?_eq_some_iff.mp hx).1
    rw [rng_len] at ht
    unfold m_law_order_L1
    simp only [run_bind, run_bind2, run_rt, run_guard, run_opt]
    have h8 := hc.len
    refine ⟨⟨by decide, by decide, by omega, by omega⟩, ?_⟩
    refine compG_wp (fun h => decide (lAt left h > 0)) (fun h => h) (small (by rw [rng_len]; omega)) (fun y hy Ψ q => ?_) (fun _ _ _ Ψ q => by exact q) ?_
    · obtain ⟨z1, z2⟩ := rng_mem.mp hy
      simp only [run_bind, run_opt, run_rt, l_at z1 z2, Option.some.injEq, exists_eq_left']
      exact q
    · rw [List.map_id']
      generalize hsm : ((rng 0 (left.length : Int)).filter fun h => decide (lAt left h > 0)) = sm
      have mem : ∀ y, y ∈ sm ↔ 0 ≤ y ∧ y < left.length ∧ 0 < lAt left y := fun y => by
        rw [← hsm, List.mem_filter, rng_mem, decide_eq_true_eq, and_assoc]
      have hl : sm.length ≤ 8 := by
        rw [← hsm]
        refine Nat.le_trans (List.length_filter_le _ _) ?_
        rw [rng_len]; omega
      have hpos : 0 < sm.length := by
        obtain ⟨n, n1, n2⟩ := pos_ex (l := left) (by omega)
        refine List.length_pos_of_mem ((mem (n : Int)).mpr ⟨by omega, by omega, ?_⟩)
        unfold lAt
        rw [Int.toNat_natCast]; exact n2
      refine draw_wp q1 (by omega) (by omega) (by omega) fun d s1 a1 a2 hs1 => ?_
      dsimp only
      obtain ⟨y, hy, ey⟩ := atI_some (xs := sm) a1 a2
      obtain ⟨y1, y2, y3⟩ := (mem y).mp hy
      refine ⟨y, ey, apd_wp (by omega) ⟨y, at_last, lAt left y, l_at y1 y2, y, at_last, ?_⟩⟩
      refine sti_wp y1 y2 ⟨hs1, by rw [List.length_set]; exact q2, ?_, fun c hc' => ?_, by rw [List.length_append, q5]; rfl, fun z hz => ?_, fun h h1 h2 => ?_⟩
      · rw [set_sum (by omega)]
        show left.sum - lAt left y + _ = _
        omega
      · rcases List.mem_or_eq_of_mem_set hc' with z | z
        · exact q4 c z
        · omega
      · rcases List.mem_append.mp hz with w | w
        · exact q6 z w
        · rw [List.mem_singleton.mp w]; exact ⟨y1, by omega⟩
      · rw [cntI_snoc, lAt_set y1 y2 h1]
        have := q7 h h1 h2
        by_cases c : h = y
        · subst c
          rw [if_pos rfl, if_pos rfl]; omega
        · rw [if_neg (fun z => c z.symm), if_neg c]; omega
  · rintro ⟨sp, left, os⟩ ⟨q1, q2, q3, q4, q5, q6, q7⟩
    dsimp only at q1 q2 q3 q4 q5 q6 q7
    rw [rng_len] at q1 q3 q5
    refine k os sp (by omega) q6 (fun h h1 h2 => ?_) (q1.mo (by omega))
    have a := q7 h h1 h2
    have m := lAt_mem (l := left) h1 (by omega)
    have b := le_sum q4 m
    have c := q4 _ m
    omega
theorem spots_wp {os : List Int} {Φ : Dc (Int × Int) Int → Prop} (hl : os.length ≤ 300) (k : ∀ m : Dc (Int × Int) Int, (∀ h j : Int, 0 ≤ j → j < cntI h os → (valM m (h, j)).isSome = true) → Φ m) : (m_law_spots os).run Φ := by
  unfold m_law_spots
  simp only [run_bind, run_rt, run_guard]
  refine ⟨⟨by decide, by decide, by omega, by omega⟩, ?_⟩
  refine forL_wp (fun t q => q.1.length ≤ t ∧ q.2.length ≤ t ∧ (∀ h, (valM q.2 h).getD 0 = (cntI h (os.take t) : Int)) ∧ ∀ h j : Int, 0 ≤ j → j < cntI h (os.take t) → (valM q.1 (h, j)).isSome = true)
    ⟨Nat.le_refl _, Nat.le_refl _, fun h => rfl, fun h j h1 h2 => by have : cntI h (os.take 0) = 0 := rfl; omega⟩ ?_ ?_
  · rintro t x ⟨fd, mn⟩ hx ⟨q1, q2, q3, q4⟩
    dsimp only at q1 q2 q3 q4
    obtain ⟨ht, rfl⟩ := rng_get hx
    have htl : t < os.length := by omega
    rw [Int.zero_add]
    obtain ⟨y, hy⟩ : ∃ y, os[t]? = some y := ⟨os[t], List.getElem?_eq_getElem htl⟩
    unfold m_law_spots_L1
    simp only [run_bind, run_opt, run_rt, atI_nat hy, Option.some.injEq, exists_eq_left']
    rw [q3]
    refine putG_wp (by omega) ⟨_, by rw [valM_put, if_pos rfl], putG_wp (by omega) ⟨?_, ?_, fun h => ?_, fun h j h1 h2 => ?_⟩⟩
    · exact Nat.le_trans putM_len (by omega)
    · exact Nat.le_trans putM_len (by omega)
    · rw [valM_put, take_snocN hy, cntI_snoc]
      by_cases c : h = y
      · subst c
        rw [if_pos rfl, if_pos rfl]; simp
      · rw [if_neg c, if_neg (fun z => c z.symm), q3]; simp
    · rw [take_snocN hy, cntI_snoc] at h2
      rw [valM_put]
      by_cases c : y = h
      · subst c
        rw [if_pos rfl] at h2
        by_cases d : j = (cntI y (os.take t) : Int)
        · rw [if_pos (by rw [d]; congr 1; omega)]; rfl
        · rw [if_neg (fun z => d (by have := congrArg Prod.snd z; dsimp only at this; omega))]
          exact q4 y j h1 (by omega)
      · rw [if_neg c] at h2
        rw [if_neg (fun z => c (congrArg Prod.fst z).symm)]
        exact q4 h j h1 (by omega)
  · rintro ⟨fd, mn⟩ ⟨q1, q2, q3, q4⟩
    rw [rng_len, Int.sub_zero, Int.toNat_natCast, List.take_length] at q4
    exact k fd q4
/-- a note between touches that are there -/
structure NtOk (cs : List Int) (t : NT4) : Prop where
  a0 : 0 ≤ t.a
  a1 : t.a < cs.length
  b0 : 0 ≤ t.b
  b1 : t.b < lAt cs t.a
  c0 : 0 ≤ t.c
  c1 : t.c < cs.length
  d0 : 0 ≤ t.d
  d1 : t.d < lAt cs t.c
  ne : t.a ≠ t.c
theorem NtOk.sw {cs : List Int} {t : NT4} (h : NtOk cs t) : NtOk cs ⟨t.c, t.d, t.a, t.b⟩ := ⟨h.c0, h.c1, h.d0, h.d1, h.a0, h.a1, h.b0, h.b1, fun e => h.ne e.symm⟩
theorem note_wp {B : Nat} {s : Bag} {cs : List Int} {Φ : Option NT4 × Bag → Prop} (hs : BagOk B s) (hB : B < 2 ^ 39) (hc : CtOk cs)
    (k : ∀ o s', (∀ t, o = some t → NtOk cs t) → BagOk (B + 4) s' → Φ (o, s')) : (m_law_note s cs).run Φ := by
  have h8 := hc.len
  unfold m_law_note
  simp only [run_bind, run_bind2, run_rt, run_guard, run_opt, run_if, decide_eq_true_eq]
  refine ⟨⟨by decide, by decide, by omega, by omega⟩, ?_⟩
  refine compG_wp (fun h => decide (lAt cs h > 0)) (fun h => h) (small (by rw [rng_len]; omega)) (fun y hy Ψ q => ?_) (fun _ _ _ Ψ q => by exact q) ?_
  · obtain ⟨z1, z2⟩ := rng_mem.mp hy
    simp only [run_bind, run_opt, run_rt, l_at z1 z2, Option.some.injEq, exists_eq_left']
    exact q
  · rw [List.map_id']
    have pw : ((rng 0 (cs.length : Int)).filter fun h => decide (lAt cs h > 0)).Pairwise (· < ·) := (rng_pw _ _).filter _
    have mem : ∀ y, y ∈ ((rng 0 (cs.length : Int)).filter fun h => decide (lAt cs h > 0)) ↔ 0 ≤ y ∧ y < cs.length ∧ 0 < lAt cs y := fun y => by
      rw [List.mem_filter, rng_mem, decide_eq_true_eq, and_assoc]
    have hl : ((rng 0 (cs.length : Int)).filter fun h => decide (lAt cs h > 0)).length ≤ 8 := by
      refine Nat.le_trans (List.length_filter_le _ _) ?_
      rw [rng_len]; omega
    generalize ((rng 0 (cs.length : Int)).filter fun h => decide (lAt cs h > 0)) = sm at pw mem hl ⊢
    split
    · exact k _ _ (fun t e => nomatch e) (hs.mo (by omega))
    · refine draw_wp hs (by omega) (by omega) (by omega) fun i s1 a1 a2 hs1 => ?_
      refine draw_wp hs1 (by omega) (by omega) (by omega) fun d s2 b1 b2 hs2 => ?_
      dsimp only
      refine ⟨by omega, ?_⟩
      obtain ⟨j, hj, j0, j1, jne⟩ : ∃ j, (i + 1 + d) % (sm.length : Int) = j ∧ 0 ≤ j ∧ j < sm.length ∧ j ≠ i := by
        refine ⟨_, rfl, Int.emod_nonneg _ (by omega), Int.emod_lt_of_pos _ (by omega), fun z => ?_⟩
        by_cases c : i + 1 + d < sm.length
        · rw [Int.emod_eq_of_lt (by omega) c] at z; omega
        · have e : (i + 1 + d) % (sm.length : Int) = (i + 1 + d - sm.length) % (sm.length : Int) := by rw [Int.sub_emod_right]
          rw [e, Int.emod_eq_of_lt (by omega) (by omega)] at z; omega
      rw [hj]
      have ei := l_at (l := sm) a1 a2
      have ej := l_at (l := sm) j0 j1
      obtain ⟨x1, x2, x3⟩ := (mem _).mp (lAt_mem (l := sm) a1 a2)
      obtain ⟨y1, y2, y3⟩ := (mem _).mp (lAt_mem (l := sm) j0 j1)
      have hne : lAt sm i ≠ lAt sm j := by
        unfold lAt
        rw [List.getD_eq_getElem?_getD, List.getD_eq_getElem?_getD, List.getElem?_eq_getElem (by omega), List.getElem?_eq_getElem (by omega)]
        show sm[i.toNat]'(by omega) ≠ sm[j.toNat]'(by omega)
        rw [List.pairwise_iff_getElem] at pw
        rcases Nat.lt_or_gt_of_ne (show i.toNat ≠ j.toNat by omega) with q | q
        · have := pw _ _ (by omega) (by omega) q; omega
        · have := pw _ _ (by omega) (by omega) q; omega
      have big := fun {x : Int} (h0 : 0 ≤ x) (h1 : x < cs.length) => Int.le_trans (le_sum hc.nn (lAt_mem h0 h1)) hc.sum
      have bx := big x1 x2
      have bY := big y1 y2
      refine ⟨_, ei, _, ei, _, l_at x1 x2, ?_⟩
      refine draw_wp hs2 (by omega) x3 (by omega) fun p s3 c1 c2 hs3 => ?_
      dsimp only
      refine ⟨_, ej, _, ej, _, l_at y1 y2, ?_⟩
      refine draw_wp hs3 (by omega) y3 (by omega) fun q s4 d1 d2 hs4 => ?_
      exact k _ _ (fun t e => by cases e; exact ⟨x1, x2, c1, c2, y1, y2, d1, d2, hne⟩) (hs4.mo (by omega))
theorem insL_wp {α : Type} {xs : List α} {i : Int} {x : α} {Φ : List α → Prop} (h : xs.length ≤ 100000) (h0 : 0 ≤ i) (h1 : i ≤ 100000) (k : ∀ ys, ys.length ≤ xs.length + 1 → (∀ y ∈ ys, y ∈ xs ∨ y = x) → Φ ys) : (insL xs i x).run Φ := by
  refine ⟨⟨small' h, h0, by omega⟩, k _ ?_ fun y hy => ?_⟩
  · simp only [List.length_append, List.length_take, List.length_drop, List.length_singleton]; omega
  · simp only [List.mem_append, List.mem_singleton] at hy
    rcases hy with (q | q) | q
    · exact .inl (List.mem_of_mem_take q)
    · exact .inr q
    · exact .inl (List.mem_of_mem_drop q)
/-- a record -/
structure RcOk (r : List Int × List NT4) : Prop where
  ct : CtOk r.1
  nt : ∀ t ∈ r.2, NtOk r.1 t
  len : r.2.length ≤ 42
theorem record_wp {B : Nat} {s : Bag} {great : Int} {Φ : (List Int × List NT4) × Bag → Prop} (hs : BagOk B s) (hB : B < 2 ^ 37) (hg : great = 0 ∨ great = 1)
    (k : ∀ r s', RcOk r → BagOk (B + 2000) s' → Φ (r, s')) : (m_law_record s great).run Φ := by
  unfold m_law_record
  simp only [run_bind, run_bind2, run_rt, run_guard, run_opt]
  refine draw_wp hs (by omega) (by decide) (by decide) fun mode s1 a1 a2 hs1 => ?_
  refine draw_wp hs1 (by omega) (by decide) (by decide) fun twice s2 b1 b2 hs2 => ?_
  refine counts_wp hs2 (by omega) fun cs s3 hc hs3 => ?_
  refine order_wp hs3 (by omega) hc fun os s4 o1 o2 o3 hs4 => ?_
  dsimp only
  refine spots_wp o1 fun sp hsp => ?_
  obtain ⟨n, hn, en⟩ := atI_some (xs := [(13 : Int), 41]) (i := great) (by omega) (by simp; omega)
  refine ⟨n, en, ?_⟩
  have hn2 : n = 13 ∨ n = 41 := by simpa using hn
  refine draw_wp hs4 (by omega) (by omega) (by omega) fun m s5 c1 c2 hs5 => ?_
  dsimp only
  refine ⟨⟨by decide, by decide, by omega, by omega⟩, ?_⟩
  refine forL_wp (fun t q => BagOk (B + 400 + 10 * t) q.1 ∧ q.2.length ≤ t ∧ ∀ t ∈ q.2, NtOk cs t) ⟨hs5.mo (by omega), Nat.le_refl _, by simp⟩ ?_ ?_
  · rintro t x ⟨s, ties⟩ hx ⟨q1, q2, q3⟩
    dsimp only at q1 q2 q3
    have ht := (List.getElem?_eq_some_iff.mp hx).1
    rw [rng_len] at ht
    unfold m_law_record_L1
    simp only [run_bind, run_bind2, run_rt, run_guard, run_if, run_opt, decide_eq_true_eq]
    refine note_wp q1 (by omega) hc fun o s6 ho hs6 => ?_
    dsimp only
    -- the step behind the draws
    have fin : ∀ (along : Bool) (s7 : Bag), BagOk (B + 400 + 10 * t + 6) s7 → ∀ Ψ : Bag × List NT4 → Prop, (∀ s8 ts, BagOk (B + 400 + 10 * (t + 1)) s8 → ts.length ≤ t + 1 → (∀ t ∈ ts, NtOk cs t) → Ψ (s8, ts)) → (W.guard (∀ b, o = some b → toPy b ≠ .none) (W.bind (W.ite (o.isSome) (W.bind (W.ite along (W.bind (W.opt o) fun t50 => W.bind (W.opt (valM sp (t50.a, t50.b))) fun t54 => W.bind (W.opt o) fun t56 => W.bind (W.opt (valM sp (t56.c, t56.d))) fun t60 => W.ret (decide (t54 > t60))) (W.ret false)) (fun t62 => W.bind (W.ite t62 (W.bind (W.opt o) fun t65 => W.bind (W.opt o) fun t69 => W.bind (W.ret (some (⟨(t65.c, t65.d).1, (t65.c, t65.d).2, (t69.a, t69.b).1, (t69.a, t69.b).2⟩ : NT4))) fun note_ => W.ret (note_)) (W.ret o)) (fun s => (fun note_ => W.bind2 (m_law_draw s7 (((ties).length : Int) + (1 : Int))) fun t76 bag_ => W.bind (W.opt note_) fun t80 => W.bind (insL ties t76 t80) fun ties_ => W.ret ((bag_, ties_, note_))) s))) (W.ret ((s7, ties, o)))) (fun s => (fun bag_ ties_ (note_ : Option NT4) => W.ret ((bag_, ties_))) s.1 s.2.1 s.2.2))).run Ψ := by
      intro along s7 h7 Ψ hΨ
      simp only [run_bind, run_bind2, run_rt, run_guard, run_if, run_opt]
      refine ⟨nn, ?_⟩
      cases o with
      | none =>
        rw [if_neg (by simp)]
        exact hΨ _ _ (h7.mo (by omega)) (by omega) q3
      | some nt =>
        have hnt := ho nt rfl
        rw [if_pos Option.isSome_some]
        have tail : ∀ nt : NT4, NtOk cs nt → (m_law_draw s7 (((ties).length : Int) + (1 : Int))).run fun r => ∃ a, some nt = some a ∧ (insL ties r.1 a).run fun a => Ψ (r.2, a) := fun nt hnt => by
          refine draw_wp h7 (by omega) (by omega) (by omega) fun at_ s8 d1 d2 hs8 => ⟨nt, rfl, ?_⟩
          refine insL_wp (by omega) d1 (by omega) fun ys y1 y2 => hΨ _ _ (hs8.mo (by omega)) (by omega) fun u hu => ?_
          rcases y2 u hu with z | z
          · exact q3 u z
          · rw [z]; exact hnt
        have two : ∀ b : Bool, if b = true then ∃ a, some nt = some a ∧ ∃ a_1, some nt = some a_1 ∧ (m_law_draw s7 (((ties).length : Int) + (1 : Int))).run fun r => ∃ a_2, some (⟨a.c, a.d, a_1.a, a_1.b⟩ : NT4) = some a_2 ∧ (insL ties r.1 a_2).run fun a => Ψ (r.2, a)
            else (m_law_draw s7 (((ties).length : Int) + (1 : Int))).run fun r => ∃ a, some nt = some a ∧ (insL ties r.1 a).run fun a => Ψ (r.2, a) := fun b => by
          split
          · exact ⟨nt, rfl, nt, rfl, tail _ hnt.sw⟩
          · exact tail nt hnt
        split
        · obtain ⟨v1, w1⟩ := Option.isSome_iff_exists.mp (hsp nt.a nt.b hnt.b0 (by rw [o3 _ hnt.a0 hnt.a1]; exact hnt.b1))
          obtain ⟨v2, w2⟩ := Option.isSome_iff_exists.mp (hsp nt.c nt.d hnt.d0 (by rw [o3 _ hnt.c0 hnt.c1]; exact hnt.d1))
          exact ⟨nt, rfl, v1, w1, nt, rfl, v2, w2, two _⟩
        · exact two false
    have fin2 : ∀ (along : Bool) (s7 : Bag), BagOk (B + 400 + 10 * t + 6) s7 → _ := fun along s7 h7 => fin along s7 h7 (fun r => BagOk (B + 400 + 10 * (t + 1)) r.1 ∧ r.2.length ≤ t + 1 ∧ ∀ t ∈ r.2, NtOk cs t) fun s8 ts z1 z2 z3 => ⟨z1, z2, z3⟩
    clear fin
    split
    · have F := fin2 true s6 (hs6.mo (by omega))
      simp only [run_bind, run_bind2, run_rt, run_guard, run_if, run_opt, decide_eq_true_eq] at F
      exact F
    · split
      · refine draw_wp hs6 (by omega) (by decide) (by decide) fun d s7 d1 d2 hs7 => ?_
        have F := fin2 (decide (d > 0)) s7 (hs7.mo (by omega))
        simp only [run_bind, run_bind2, run_rt, run_guard, run_if, run_opt, decide_eq_true_eq] at F
        exact F
      · have F := fin2 false s6 (hs6.mo (by omega))
        simp only [run_bind, run_bind2, run_rt, run_guard, run_if, run_opt, decide_eq_true_eq] at F
        exact F
  · rintro ⟨s, ties⟩ ⟨q1, q2, q3⟩
    dsimp only at q1 q2 q3
    rw [rng_len] at q1 q2
    have q1 : BagOk (B + 1000) s := q1.mo (by omega)
    have q2 : ties.length ≤ 41 := by omega
    unfold m_law_record_R1
    simp only [run_bind, run_bind2, run_rt, run_guard, run_if, run_opt, decide_eq_true_eq]
    have fin : ∀ b : Bool, (b = true → ties ≠ []) → if b = true then (m_law_draw s (((ties).length : Int) + (1 : Int))).run fun r => (m_law_draw r.2 ((ties).length : Int)).run fun r_1 => ∃ a, atI ties r_1.1 = some a ∧ (insL ties r.1 a).run fun a => Φ ((cs, a), r_1.2) else Φ ((cs, ties), s) := fun b hb => by
      split
      · rename_i hbt
        have hpos := List.length_pos_iff.mpr (hb hbt)
        refine draw_wp q1 (by omega) (by omega) (by omega) fun at_ s8 d1 d2 hs8 => ?_
        refine draw_wp hs8 (by omega) (by omega) (by omega) fun to s9 e1 e2 hs9 => ?_
        obtain ⟨x, hx, ex⟩ := atI_some (xs := ties) e1 e2
        refine ⟨x, ex, insL_wp (by omega) d1 (by omega) fun ys y1 y2 => k _ _ ⟨hc, fun u hu => ?_, by show ys.length ≤ 42; omega⟩ (hs9.mo (by omega))⟩
        rcases y2 u hu with z | z
        · exact q3 u z
        · rw [z]; exact q3 x hx
      · exact k _ _ ⟨hc, q3, by show ties.length ≤ 42; omega⟩ (q1.mo (by omega))
    split
    · refine ⟨⟨okD_pl _, okD_pl _⟩, fin _ fun h z => ?_⟩
      rw [eqD_dec, z] at h
      simp at h
    · exact fin false fun h => absurd h (by decide)
end M
/-! # cuts and least cuts, for records of any length (CutN and K36m turned to RcG) -/
namespace M
open PySem L2 Z
structure CtG (cs : List Int) : Prop where
  len : cs.length ≤ 8
structure RcG (r : List Int × List NT4) : Prop where
  ct : CtG r.1
  nt : ∀ t ∈ r.2, NtOk r.1 t
section
variable {r : List Int × List NT4} {l s cs : List Int}
structure CutOk (cs l : List Int) : Prop where
  len : l.length = cs.length
  bd : ∀ h : Int, 0 ≤ h → h < cs.length → 0 ≤ lAt l h ∧ lAt l h ≤ lAt cs h
theorem istouch_wp {h k : Int} {Φ : Bool → Prop} (h0 : 0 ≤ h) (h1 : h < cs.length) (k0 : 0 ≤ k) (k1 : k < lAt cs h) (q : Φ true) : (m_is_touch cs h k).run Φ := by
  unfold m_is_touch
  simp only [run_bind, run_rt, run_if, run_opt, decide_eq_true_eq]
  rw [if_pos h0, if_pos h1, if_pos k0]
  refine ⟨_, l_at h0 h1, ?_⟩
  rw [decide_eq_true k1]
  exact q
theorem needrec_wp {Φ : Unit → Prop} (hr : RcG r) (q : Φ ()) : (m_need_record r).run Φ := by
  unfold m_need_record
  simp only [run_bind, run_rt]
  refine forL_wp (fun _ _ => True) trivial (fun i x s hx _ => ?_) (fun _ _ => q)
  have hn := hr.nt x (List.mem_of_getElem? hx)
  unfold m_need_record_L1
  simp only [run_bind, run_rt, run_if, decide_eq_true_eq]
  rw [if_neg hn.ne]
  refine istouch_wp hn.a0 hn.a1 hn.b0 hn.b1 ?_
  simp only [Bool.not_true, Bool.false_eq_true, if_false]
  exact istouch_wp hn.c0 hn.c1 hn.d0 hn.d1 (by simp)
def viol (l : List Int) (t : NT4) : Bool := decide (t.d < lAt l t.c) && decide (t.b ≥ lAt l t.a)
theorem sum_mono : ∀ {l m : List Int}, l.length = m.length → (∀ n : Nat, l.getD n 0 ≤ m.getD n 0) → l.sum ≤ m.sum
  | [], [], _, _ => by simp
  | [], _ :: _, h, _ => by simp at h
  | _ :: _, [], h, _ => by simp at h
  | a :: l, b :: m, h, q => by
    have h0 := q 0
    have := sum_mono (l := l) (m := m) (by simpa using h) (fun n => by simpa using q (n + 1))
    simp only [List.getD_cons_zero] at h0
    rw [List.sum_cons, List.sum_cons]
    omega
theorem lAt_nat {l : List Int} {n : Nat} : l.getD n 0 = lAt l (n : Int) := by unfold lAt; rw [Int.toNat_natCast]
theorem lAt_out {l : List Int} {n : Nat} (h : l.length ≤ n) : l.getD n 0 = 0 := by
  rw [List.getD_eq_getElem?_getD, List.getElem?_eq_none h]; rfl
theorem sum_monoI {l m : List Int} (e : l.length = m.length) (h : ∀ x : Int, 0 ≤ x → x < l.length → lAt l x ≤ lAt m x) : l.sum ≤ m.sum := by
  refine sum_mono e fun n => ?_
  by_cases c : n < l.length
  · rw [lAt_nat, lAt_nat]; exact h n (by omega) (by omega)
  · rw [lAt_out (by omega), lAt_out (by omega)]
    exact Int.le_refl _
theorem lAt_ext {l m : List Int} (e : l.length = m.length) (h : ∀ x : Int, 0 ≤ x → x < l.length → lAt l x = lAt m x) : l = m := by
  refine List.ext_getElem e fun n h1 h2 => ?_
  have := h n (by omega) (by omega)
  rw [← lAt_nat, ← lAt_nat, List.getD_eq_getElem?_getD, List.getD_eq_getElem?_getD, List.getElem?_eq_getElem h1, List.getElem?_eq_getElem h2] at this
  exact this
/-- a cut, told as numbers -/
def Cl (ts : List NT4) (f : Int → Int) : Prop := ∀ t ∈ ts, t.d < f t.c → t.b < f t.a
theorem Cl.any {l : List Int} {ts : List NT4} (h : Cl ts (lAt l)) : ts.any (viol l) = false := by
  rw [List.any_eq_false]
  intro t ht c
  unfold viol at c
  rw [Bool.and_eq_true, decide_eq_true_eq, decide_eq_true_eq] at c
  have := h t ht c.1
  omega
theorem CutOk.sum (h : CutOk cs l) : l.sum ≤ cs.sum := sum_monoI h.len fun x h1 h2 => (h.bd x h1 (by rw [← h.len]; exact h2)).2
theorem CutOk.set {x v : Int} (h : CutOk cs l) (h0 : 0 ≤ x) (h1 : x < cs.length) (v0 : 0 ≤ v) (v1 : v ≤ lAt cs x) : CutOk cs (l.set x.toNat v) := ⟨by rw [List.length_set]; exact h.len, fun y y0 y1 => by
  rw [lAt_set h0 (by rw [h.len]; exact h1) y0]
  by_cases c : y = x
  · rw [if_pos c, c]; exact ⟨v0, v1⟩
  · rw [if_neg c]; exact h.bd y y0 y1⟩
/-! the program's -/
end
end M
/-! # orders of records of any length (FirstN, DueN, K38m over RcL) -/
namespace M
open PySem L2 Z
structure RcL (r : List Int × List NT4) : Prop where
  ct : CtOk r.1
  nt : ∀ t ∈ r.2, NtOk r.1 t
  len : r.2.length ≤ 99000
theorem RcL.g {r : List Int × List NT4} (h : RcL r) : RcG r := ⟨⟨h.ct.len⟩, h.nt⟩
section
variable {r : List Int × List NT4} {os cs now : List Int} {ts : List NT4}
def fsts (ts : List NT4) (key : Int × Int) : List (Int × Int) := (ts.filter fun t => decide ((t.c, t.d) = key)).map fun t => (t.a, t.b)
theorem fsts_len {key : Int × Int} : (fsts ts key).length ≤ ts.length := by
  unfold fsts
  rw [List.length_map]
  exact List.length_filter_le _ _
theorem fsts_snoc {t : NT4} {key : Int × Int} : fsts (ts ++ [t]) key = if key = (t.c, t.d) then fsts ts key ++ [(t.a, t.b)] else fsts ts key := by
  unfold fsts
  rw [List.filter_append, List.map_append]
  by_cases c : key = (t.c, t.d)
  · rw [if_pos c]; subst c; simp
  · rw [if_neg c]
    have : ¬ (t.c, t.d) = key := fun e => c e.symm
    simp [this]
theorem valM_setd' {κ α : Type} [DecidableEq κ] {m : Dc κ (List α)} {k j : κ} : (valM (setd m k) j).getD [] = (valM m j).getD [] := by
  unfold setd
  split
  · rfl
  · rename_i c
    have : valM m k = none := by
      cases h : valM m k with
      | none => rfl
      | some x => rw [h] at c; exact absurd rfl c
    rw [valM_snoc this]
    by_cases e : j = k
    · subst e
      rw [if_pos rfl, this]; rfl
    · rw [if_neg e]
theorem sd_len {κ α : Type} [DecidableEq κ] {m : Dc κ (List α)} {k : κ} {v : List α} : (putM (setd m k) k v).length ≤ m.length + 1 := by
  unfold setd
  split
  · rename_i c
    unfold putM
    rw [anyM, if_pos c, List.length_map]
    omega
  · rename_i c
    have h : valM m k = none := by
      cases h : valM m k with
      | none => rfl
      | some x => rw [h] at c; exact absurd rfl c
    unfold putM
    rw [anyM, valM_snoc h, if_pos rfl, if_pos (show (some ([] : List α)).isSome = true from rfl), List.length_map, List.length_append]
    exact Nat.le_refl _
def Firsts (ts : List NT4) (m : Dc (Int × Int) (List (Int × Int))) : Prop := ∀ key, (valM m key).getD [] = fsts ts key
theorem firsts_wp {Φ : Dc (Int × Int) (List (Int × Int)) → Prop} (hl : r.2.length ≤ 99000) (q : ∀ m, Firsts r.2 m → Φ m) : (m_firsts_of r).run Φ := by
  unfold m_firsts_of
  simp only [run_bind, run_rt]
  refine forL_wp (fun i m => m.length ≤ i ∧ Firsts (r.2.take i) m) ⟨Nat.le_refl _, fun key => rfl⟩ ?_ ?_
  · rintro i t m ht ⟨h1, h2⟩
    have hi := (List.getElem?_eq_some_iff.mp ht).1
    unfold m_firsts_of_L1
    simp only [run_bind, run_rt]
    have hb := fsts_len (ts := r.2.take i) (key := (t.c, t.d))
    rw [List.length_take] at hb
    show (_ ∧ _) ∧ _
    refine ⟨⟨small' (by omega), by rw [h2]; exact small' (by omega)⟩, ?_⟩
    show _ ∧ _
    refine ⟨Nat.le_trans sd_len (by omega), fun key => ?_⟩
    rw [M.valM_put, take_snocN ht, fsts_snoc]
    by_cases c : key = (t.c, t.d)
    · rw [if_pos c, if_pos c, Option.getD_some, h2, c]
    · rw [if_neg c, if_neg c, valM_setd', h2]
  · rintro m ⟨_, h⟩
    rw [List.take_length] at h
    exact q m h
/-- a note holds the hand's next touch back -/
def heldB (ts : List NT4) (now : List Int) (h : Int) : Bool := ts.any fun t => decide (t.c = h) && (decide (t.d = lAt now h) && decide (lAt now t.a ≤ t.b))
theorem heldB_iff {h : Int} : heldB ts now h = true ↔ ∃ t ∈ ts, t.c = h ∧ t.d = lAt now h ∧ lAt now t.a ≤ t.b := by
  unfold heldB
  rw [List.any_eq_true]
  simp only [Bool.and_eq_true, decide_eq_true_eq]
theorem waits_wp {m : Dc (Int × Int) (List (Int × Int))} {h : Int} {Φ : List (Int × Int) → Prop} (hr : RcL r) (hm : Firsts r.2 m) (hn : now.length = r.1.length) (h0 : 0 ≤ h) (h1 : h < r.1.length)
    (q : ∀ ws : List (Int × Int), eqD ws ([] : List (Int × Int)) = !heldB r.2 now h → Φ ws) : (m_waits_for m now h).run Φ := by
  unfold m_waits_for
  simp only [run_bind, run_rt, run_opt]
  refine ⟨_, l_at h0 (by rw [hn]; exact h1), ?_⟩
  rw [hm]
  have hl := hr.len
  refine compG_wp (fun e => decide (e.2 ≥ lAt now e.1)) (fun e => e) (small (by have := fsts_len (ts := r.2) (key := (h, lAt now h)); omega)) (fun e he Ψ q => ?_) (fun _ _ _ Ψ q => by exact q) ?_
  · unfold fsts at he
    obtain ⟨t, ht, rfl⟩ := List.mem_map.mp he
    have hk := hr.nt t (List.mem_filter.mp ht).1
    simp only [run_bind, run_rt, run_opt]
    exact ⟨_, l_at hk.a0 (by rw [hn]; exact hk.a1), q⟩
  · rw [List.map_id']
    refine q _ ?_
    rw [eqD_dec]
    cases c : heldB r.2 now h with
    | true =>
      obtain ⟨t, t1, t2, t3, t4⟩ := heldB_iff.mp c
      refine decide_eq_false fun e => ?_
      rw [List.filter_eq_nil_iff] at e
      refine e (t.a, t.b) ?_ (by simpa using t4)
      unfold fsts
      exact List.mem_map.mpr ⟨t, List.mem_filter.mpr ⟨t1, by rw [decide_eq_true_eq, t2, t3]⟩, rfl⟩
    | false =>
      refine decide_eq_true ?_
      rw [List.filter_eq_nil_iff]
      intro e he z
      unfold fsts at he
      obtain ⟨t, ht, rfl⟩ := List.mem_map.mp he
      obtain ⟨t1, t2⟩ := List.mem_filter.mp ht
      rw [decide_eq_true_eq, Prod.mk.injEq] at t2
      rw [decide_eq_true_eq] at z
      have : heldB r.2 now h = true := heldB_iff.mpr ⟨t, t1, t2.1, t2.2, z⟩
      rw [c] at this
      cases this
theorem sum_monoK : ∀ {l m : List Int}, l.length = m.length → (∀ x : Int, 0 ≤ x → x < l.length → lAt l x ≤ lAt m x) → l.sum ≤ m.sum
  | [], [], _, _ => by simp
  | [], _ :: _, h, _ => by simp at h
  | _ :: _, [], h, _ => by simp at h
  | a :: l, b :: m, h, q => by
    have h0 : a ≤ b := q 0 (by omega) (by rw [List.length_cons]; omega)
    have := sum_monoK (l := l) (m := m) (by simpa using h) fun x x0 x1 => by
      have := q (x + 1) (by omega) (by rw [List.length_cons]; omega)
      unfold lAt at this ⊢
      have e : (x + 1).toNat = x.toNat + 1 := by omega
      rw [e, List.getD_cons_succ, List.getD_cons_succ] at this
      exact this
    rw [List.sum_cons, List.sum_cons]
    omega
theorem repH {n h : Int} (h0 : 0 ≤ n) (h1 : n ≤ 1000) : repG ([h] : List Int) n ∧ repL ([h] : List Int) n = List.replicate n.toNat h := by
  refine ⟨⟨by omega, by omega, ?_⟩, ?_⟩
  · refine Nat.le_trans (show [h].length * n.toNat ≤ 1000 by simp; omega) (by decide)
  · unfold repL
    exact List.flatten_replicate_singleton
structure IsOrd (cs os : List Int) : Prop where
  ct : ∀ h : Int, 0 ≤ h → h < cs.length → (cntI h os : Int) = lAt cs h
  len : (os.length : Int) = cs.sum
theorem cntI_take {h : Int} {i j : Nat} (hij : i ≤ j) : cntI h (os.take i) ≤ cntI h (os.take j) := by
  unfold cntI
  have : os.take i = (os.take j).take i := by rw [List.take_take, Nat.min_eq_left hij]
  rw [this]
  exact (List.take_sublist _ _).count_le _
/-- an order keeps notes -/
def Kept (ts : List NT4) (os : List Int) : Prop := ∀ j x, os[j]? = some x → ∀ t ∈ ts, t.c = x → t.d = (cntI x (os.take j) : Int) → t.b < (cntI t.a (os.take j) : Int)
/-- where the touches stand -/
def Spots (os : List Int) (m : Dc (Int × Int) Int) : Prop := (∀ h j : Int, 0 ≤ j → j < cntI h os → (valM m (h, j)).isSome = true) ∧ ∀ h j p, valM m (h, j) = some p → 0 ≤ p ∧ os[p.toNat]? = some h ∧ (cntI h (os.take p.toNat) : Int) = j
theorem spots_wp2 {Φ : Dc (Int × Int) Int → Prop} (hl : os.length ≤ 1000) (k : ∀ m : Dc (Int × Int) Int, Spots os m → Φ m) : (m_law_spots os).run Φ := by
  unfold m_law_spots
  simp only [run_bind, run_rt, run_guard]
  refine ⟨⟨by decide, by decide, by omega, by omega⟩, ?_⟩
  refine forL_wp (fun t q => q.1.length ≤ t ∧ q.2.length ≤ t ∧ (∀ h, (valM q.2 h).getD 0 = (cntI h (os.take t) : Int)) ∧ (∀ h j : Int, 0 ≤ j → j < cntI h (os.take t) → (valM q.1 (h, j)).isSome = true) ∧ ∀ h j p, valM q.1 (h, j) = some p → 0 ≤ p ∧ os[p.toNat]? = some h ∧ (cntI h (os.take p.toNat) : Int) = j)
    ⟨Nat.le_refl _, Nat.le_refl _, fun h => rfl, fun h j h1 h2 => by have : cntI h (os.take 0) = 0 := rfl; omega, fun h j p e => by cases e⟩ ?_ ?_
  · rintro t x ⟨fd, mn⟩ hx ⟨q1, q2, q3, q4, q5⟩
    dsimp only at q1 q2 q3 q4 q5
    obtain ⟨ht, rfl⟩ := rng_get hx
    have htl : t < os.length := by omega
    rw [Int.zero_add]
    obtain ⟨y, hy⟩ : ∃ y, os[t]? = some y := ⟨os[t], List.getElem?_eq_getElem htl⟩
    unfold m_law_spots_L1
    simp only [run_bind, run_opt, run_rt, atI_nat hy, Option.some.injEq, exists_eq_left']
    rw [q3]
    refine putG_wp (by omega) ⟨_, by rw [M.valM_put, if_pos rfl], putG_wp (by omega) ⟨?_, ?_, fun h => ?_, fun h j h1 h2 => ?_, fun h j p e => ?_⟩⟩
    · exact Nat.le_trans putM_len (by omega)
    · exact Nat.le_trans putM_len (by omega)
    · rw [M.valM_put, take_snocN hy, cntI_snoc]
      by_cases c : h = y
      · subst c
        rw [if_pos rfl, if_pos rfl]; simp
      · rw [if_neg c, if_neg (fun z => c z.symm), q3]; simp
    · rw [take_snocN hy, cntI_snoc] at h2
      rw [M.valM_put]
      by_cases c : y = h
      · subst c
        rw [if_pos rfl] at h2
        by_cases d : j = (cntI y (os.take t) : Int)
        · rw [if_pos (by rw [d]; congr 1; omega)]; rfl
        · rw [if_neg (fun z => d (by have := congrArg Prod.snd z; dsimp only at this; omega))]
          exact q4 y j h1 (by omega)
      · rw [if_neg c] at h2
        rw [if_neg (fun z => c (congrArg Prod.fst z).symm)]
        exact q4 h j h1 (by omega)
    · rw [M.valM_put] at e
      split at e
      · rename_i c
        rw [Prod.mk.injEq] at c
        cases e
        rw [Int.toNat_natCast, c.1]
        exact ⟨by omega, hy, by rw [c.2]; omega⟩
      · exact q5 h j p e
  · rintro ⟨fd, mn⟩ ⟨q1, q2, q3, q4, q5⟩
    rw [rng_len, Int.sub_zero, Int.toNat_natCast, List.take_length] at q4
    exact k fd ⟨q4, q5⟩
theorem Spots.at {m : Dc (Int × Int) Int} (hm : Spots os m) {h j : Int} (h0 : 0 ≤ j) (h1 : j < cntI h os) : ∃ p : Nat, valM m (h, j) = some (p : Int) ∧ os[p]? = some h ∧ (cntI h (os.take p) : Int) = j := by
  obtain ⟨p, hp⟩ := Option.isSome_iff_exists.mp (hm.1 h j h0 h1)
  obtain ⟨a, b, c⟩ := hm.2 h j p hp
  exact ⟨p.toNat, by rw [hp]; congr 1; omega, b, c⟩
theorem cnt_next {h : Int} {p j : Nat} (hp : os[p]? = some h) (hj : p < j) : cntI h (os.take p) + 1 ≤ cntI h (os.take j) := by
  have := cntI_take (os := os) (h := h) (show p + 1 ≤ j by omega)
  rw [take_snocN hp, cntI_snoc, if_pos rfl] at this
  exact this
/-- a note's two places -/
theorem kept_one {m : Dc (Int × Int) Int} (hm : Spots os m) {t : NT4} (hk : NtOk cs t) (ho : IsOrd cs os) : ∃ p q : Nat, valM m (t.a, t.b) = some (p : Int) ∧ valM m (t.c, t.d) = some (q : Int) ∧
    (p ≤ q ↔ ∀ j x, os[j]? = some x → t.c = x → t.d = (cntI x (os.take j) : Int) → t.b < (cntI t.a (os.take j) : Int)) := by
  obtain ⟨p, p1, p2, p3⟩ := hm.at hk.b0 (by rw [ho.ct _ hk.a0 hk.a1]; exact hk.b1)
  obtain ⟨q, q1, q2, q3⟩ := hm.at hk.d0 (by rw [ho.ct _ hk.c0 hk.c1]; exact hk.d1)
  refine ⟨p, q, p1, q1, fun hpq j x hj e1 e2 => ?_, fun h => ?_⟩
  · subst e1
    have hjq : j = q := by
      rcases Nat.lt_trichotomy j q with c | c | c
      · have := cnt_next hj c; omega
      · exact c
      · have := cnt_next q2 c; omega
    subst hjq
    have hne : p ≠ j := fun e => by
      subst e
      rw [p2] at hj
      exact hk.ne (Option.some.inj hj)
    have := cnt_next p2 (show p < j by omega)
    omega
  · have := h q t.c q2 rfl q3.symm
    apply Classical.byContradiction
    intro c
    have := cntI_take (os := os) (h := t.a) (show q ≤ p by omega)
    omega
theorem repZ {n : Nat} (h : n ≤ 300) : repG ([(0 : Int)] : List Int) (n : Int) ∧ repL ([(0 : Int)] : List Int) (n : Int) = List.replicate n 0 := by
  have := repH (n := n) (h := 0) (by omega) (by omega)
  rw [Int.toNat_natCast] at this
  exact this
theorem lAt_zero {n : Nat} {x : Int} : lAt (List.replicate n 0) x = 0 := by
  unfold lAt
  rw [List.getD_eq_getElem?_getD, List.getElem?_replicate]
  split <;> rfl
theorem lAt_map {f : Int → Int} {n : Nat} {h : Int} (h0 : 0 ≤ h) (h1 : h < n) : lAt ((rng 0 (n : Int)).map f) h = f h := by
  obtain ⟨k, rfl⟩ : ∃ k : Nat, h = k := ⟨h.toNat, by omega⟩
  unfold lAt
  rw [Int.toNat_natCast, List.getD_eq_getElem?_getD, List.getElem?_map]
  have : (rng 0 (n : Int))[k]? = some (k : Int) := by
    unfold rng
    rw [List.getElem?_map, List.getElem?_range (by omega)]
    simp
  rw [this]
  rfl
/-- the hands whose next touch waits for none -/
def freeL (r : List Int × List NT4) (now : List Int) : List Int := (rng 0 (r.1.length : Int)).filter fun h => decide (lAt now h < lAt r.1 h) && !heldB r.2 now h
theorem mem_free {h : Int} : h ∈ freeL r now ↔ 0 ≤ h ∧ h < r.1.length ∧ lAt now h < lAt r.1 h ∧ heldB r.2 now h = false := by
  unfold freeL
  rw [List.mem_filter, rng_mem, Bool.and_eq_true, decide_eq_true_eq, Bool.not_eq_true']
  simp only [and_assoc]
theorem ready_wp {m : Dc (Int × Int) (List (Int × Int))} {Φ : List Int → Prop} (hr : RcL r) (hm : Firsts r.2 m) (hn : now.length = r.1.length) (q : Φ (freeL r now)) : (m_ready r.1 m now).run Φ := by
  have h8 := hr.ct.len
  unfold m_ready
  simp only [run_bind, run_rt, run_guard]
  refine ⟨⟨by decide, by decide, by omega, by omega⟩, ?_⟩
  refine compG_wp (fun h => decide (lAt now h < lAt r.1 h)) (fun h => h) (small (by rw [rng_len]; omega)) (fun y hy Ψ q => ?_) (fun _ _ _ Ψ q => by exact q) ?_
  · obtain ⟨y1, y2⟩ := rng_mem.mp hy
    simp only [run_bind, run_rt, run_opt]
    exact ⟨_, l_at y1 (by omega), _, l_at y1 y2, q⟩
  · rw [List.map_id']
    refine compG_wp (fun h => !heldB r.2 now h) (fun h => h) (small (Nat.le_trans (List.length_filter_le _ _) (by rw [rng_len]; omega))) (fun y hy Ψ q => ?_) (fun _ _ _ Ψ q => by exact q) ?_
    · obtain ⟨y1, y2⟩ := rng_mem.mp (List.mem_filter.mp hy).1
      simp only [run_bind, run_rt, run_guard]
      refine waits_wp hr hm hn y1 y2 fun ws hw => ⟨⟨okD_pl _, okD_pl _⟩, ?_⟩
      rw [hw]
      exact q
    · rw [List.map_id', List.filter_filter]
      have e : freeL r now = (rng 0 (r.1.length : Int)).filter fun h => (!heldB r.2 now h) && decide (lAt now h < lAt r.1 h) := by
        unfold freeL
        congr 1
        funext h
        rw [Bool.and_comm]
      rw [e] at q
      exact q
/-- how often each hand has had its turn -/
def nowL (n : Nat) (os : List Int) : List Int := (rng 0 (n : Int)).map fun h => (cntI h os : Int)
theorem nowL_len {n : Nat} : (nowL n os).length = n := by unfold nowL; rw [List.length_map, rng_len]; omega
theorem nowL_at {n : Nat} {h : Int} (h0 : 0 ≤ h) (h1 : h < n) : lAt (nowL n os) h = (cntI h os : Int) := lAt_map h0 h1
theorem nowL_step {n : Nat} {x : Int} (x0 : 0 ≤ x) (x1 : x < n) : (nowL n os).set x.toNat (lAt (nowL n os) x + 1) = nowL n (os ++ [x]) := by
  refine lAt_ext (by rw [List.length_set, nowL_len, nowL_len]) fun y y0 y1 => ?_
  rw [List.length_set, nowL_len] at y1
  rw [lAt_set x0 (by rw [nowL_len]; exact x1) y0, nowL_at x0 x1, nowL_at y0 y1, nowL_at y0 y1, cntI_snoc]
  by_cases c : y = x
  · subst c
    rw [if_pos rfl, if_pos rfl]; omega
  · rw [if_neg c, if_neg (fun z => c z.symm)]; omega
theorem nowL_nil {n : Nat} : nowL n [] = List.replicate n 0 := lAt_ext (by rw [nowL_len, List.length_replicate]) fun x x0 x1 => by
  rw [nowL_len] at x1
  rw [nowL_at x0 x1, lAt_zero]; rfl
theorem eq_of_sum : ∀ {l m : List Int}, l.length = m.length → (∀ x : Int, 0 ≤ x → x < l.length → lAt l x ≤ lAt m x) → m.sum ≤ l.sum → l = m
  | [], [], _, _, _ => rfl
  | [], _ :: _, h, _, _ => by simp at h
  | _ :: _, [], h, _, _ => by simp at h
  | a :: l, b :: m, h, q, s => by
    have h0 : a ≤ b := q 0 (by omega) (by rw [List.length_cons]; omega)
    have q' : ∀ x : Int, 0 ≤ x → x < l.length → lAt l x ≤ lAt m x := fun x x0 x1 => by
      have := q (x + 1) (by omega) (by rw [List.length_cons]; omega)
      unfold lAt at this ⊢
      have e : (x + 1).toNat = x.toNat + 1 := by omega
      rw [e, List.getD_cons_succ, List.getD_cons_succ] at this
      exact this
    have := sum_monoK (l := l) (m := m) (by simpa using h) q'
    rw [List.sum_cons, List.sum_cons] at s
    have e2 := eq_of_sum (l := l) (m := m) (by simpa using h) q' (by omega)
    have : a = b := by omega
    rw [this, e2]
/-- each turn is the first hand's that may go on -/
def Greedy (r : List Int × List NT4) (os : List Int) : Prop := ∀ i x, os[i]? = some x → ∃ l, freeL r (nowL r.1.length (os.take i)) = x :: l
def Stuck (r : List Int × List NT4) (P : List Int) : Prop := P.length = r.1.length ∧ (∀ h : Int, 0 ≤ h → h < r.1.length → 0 ≤ lAt P h ∧ lAt P h ≤ lAt r.1 h) ∧ freeL r P = [] ∧ P.sum < r.1.sum
theorem first_wp {Φ : Option (List Int) → Prop} (hr : RcL r) (k1 : ∀ P, Stuck r P → Φ none) (k2 : ∀ os, os.length ≤ 300 → Greedy r os → nowL r.1.length os = r.1 → (os.length : Int) = r.1.sum → Φ (some os)) : (m_first_order r).run Φ := by
  have h8 := hr.ct.len
  have hsum := hr.ct.sum
  unfold m_first_order
  simp only [run_bind, run_rt, run_guard]
  refine needrec_wp hr.g ?_
  refine firsts_wp (by have := hr.len; omega) fun m hm => ?_
  obtain ⟨z1, z2⟩ := repZ (n := r.1.length) (by omega)
  refine ⟨z1, ?_⟩
  rw [z2]
  refine while_wp (fun (p : List Int × List Int) => p.1 = nowL r.1.length p.2 ∧ (∀ h : Int, 0 ≤ h → h < r.1.length → lAt p.1 h ≤ lAt r.1 h) ∧ p.1.sum = (p.2.length : Int) ∧ Greedy r p.2) (fun p => (r.1.sum - p.2.length).toNat) ?_ ?_
  · exact ⟨nowL_nil.symm, fun h h0 h1 => by dsimp only; rw [lAt_zero]; exact hr.ct.nn _ (lAt_mem h0 h1), by simp, fun i x h => by simp at h⟩
  rintro ⟨now, os⟩ ⟨i1, i2, i3, i4⟩
  dsimp only at i1 i2 i3 i4 ⊢
  have hn : now.length = r.1.length := by rw [i1, nowL_len]
  unfold m_first_order_L1
  simp only [run_if, run_bind, run_rt, run_guard, run_opt, decide_eq_true_eq]
  have le : now.sum ≤ r.1.sum := sum_monoK hn fun x x0 x1 => i2 x x0 (by omega)
  by_cases c : (os.length : Int) < r.1.sum
  · rw [if_pos c]
    refine ready_wp hr hm hn ⟨⟨okD_pl _, okD_pl _⟩, ?_⟩
    rw [eqD_dec]
    cases hf : freeL r now with
    | nil =>
      rw [decide_eq_true rfl, if_pos rfl]
      exact k1 now ⟨hn, fun h h0 h1 => ⟨by rw [i1, nowL_at h0 h1]; omega, i2 h h0 h1⟩, hf, by omega⟩
    | cons x l =>
      rw [decide_eq_false (by simp), if_neg Bool.false_ne_true]
      have hx : x ∈ freeL r now := by rw [hf]; exact List.mem_cons_self
      obtain ⟨x0, x1, x2, x3⟩ := mem_free.mp hx
      refine ⟨x, at_head, apd_wp (by omega) ⟨x, at_head, _, l_at x0 (by omega), sti_wp x0 (by omega) ?_⟩⟩
      show (_ ∧ _ ∧ _ ∧ _) ∧ _
      refine ⟨⟨by subst i1; exact nowL_step x0 x1, fun h h0 h1 => ?_, ?_, fun i y hy => ?_⟩, ?_⟩
      · dsimp only
        rw [lAt_set x0 (by omega) h0]
        split
        · rename_i e; rw [e]; omega
        · exact i2 h h0 h1
      · dsimp only
        rw [set_sum (by omega), List.length_append]
        show now.sum - lAt now x + _ = _
        simp only [List.length_singleton]
        omega
      · dsimp only at hy
        by_cases e : i < os.length
        · rw [List.getElem?_append_left e] at hy
          rw [List.take_append_of_le_length (by omega)]
          exact i4 i y hy
        · rw [List.getElem?_append_right (by omega)] at hy
          have hi : i = os.length := by
            have := (List.getElem?_eq_some_iff.mp hy).1
            simp only [List.length_singleton] at this
            omega
          subst hi
          simp only [Nat.sub_self, List.getElem?_cons_zero, Option.some.injEq] at hy
          subst hy
          refine ⟨l, ?_⟩
          rw [List.take_left, ← i1]
          exact hf
      · dsimp only
        rw [List.length_append, List.length_singleton]
        omega
  · rw [if_neg c]
    have e : now = r.1 := eq_of_sum hn (fun x x0 x1 => i2 x x0 (by omega)) (by omega)
    exact k2 os (by omega) i4 (by rw [← i1]; exact e) (by rw [← i3, e])
theorem greedy_kept (hr : RcL r) (hg : Greedy r os) : Kept r.2 os := by
  intro j x hj t ht e1 e2
  obtain ⟨l, hf⟩ := hg j x hj
  have hm : x ∈ freeL r (nowL r.1.length (os.take j)) := by rw [hf]; exact List.mem_cons_self
  obtain ⟨x0, x1, x2, x3⟩ := mem_free.mp hm
  have hk := hr.nt t ht
  apply Classical.byContradiction
  intro n
  have := heldB_iff.mpr ⟨t, ht, e1, by rw [nowL_at x0 x1]; exact e2, by rw [nowL_at hk.a0 hk.a1]; omega⟩
  rw [x3] at this
  cases this
end
end M
/-! # rings of a record; a ring or an order -/
namespace M
open PySem L2 Z
section
variable {r : List Int × List NT4} {os cs : List Int} {ts l : List NT4} {note : NT4}
def lds (t u : NT4) : Prop := t.c = u.a ∧ t.d ≤ u.b
instance {t u : NT4} : Decidable (lds t u) := by unfold lds; infer_instance
structure Rng (ts l : List NT4) : Prop where
  ne : 0 < l.length
  mem : ∀ t ∈ l, t ∈ ts
  go : ∀ i t u, l[i]? = some t → l[(i + 1) % l.length]? = some u → lds t u
theorem Rng.prev (h : Rng ts l) {u : NT4} (hu : u ∈ l) : ∃ t ∈ l, lds t u := by
  obtain ⟨i, hi, rfl⟩ := List.mem_iff_getElem.mp hu
  have hn := h.ne
  by_cases c : i = 0
  · subst c
    have hj : l.length - 1 < l.length := by omega
    refine ⟨l[l.length - 1], List.getElem_mem _, h.go (l.length - 1) _ _ (List.getElem?_eq_getElem hj) ?_⟩
    rw [show l.length - 1 + 1 = l.length by omega, Nat.mod_self]
    exact List.getElem?_eq_getElem hi
  · have hj : i - 1 < l.length := by omega
    refine ⟨l[i - 1], List.getElem_mem _, h.go (i - 1) _ _ (List.getElem?_eq_getElem hj) ?_⟩
    rw [show i - 1 + 1 = i by omega, Nat.mod_eq_of_lt hi]
    exact List.getElem?_eq_getElem hi
/-! ## an order bars rings -/
theorem cnt_at {h d : Int} (h0 : 0 ≤ d) : ∀ j, d < (cntI h (os.take j) : Int) → ∃ i, i < j ∧ os[i]? = some h ∧ d = (cntI h (os.take i) : Int)
  | 0, hd => by
    have e : cntI h (os.take 0) = 0 := by simp [cntI]
    omega
  | j + 1, hd => by
    by_cases c : d < (cntI h (os.take j) : Int)
    · obtain ⟨i, a, b, e⟩ := cnt_at h0 j c
      exact ⟨i, by omega, b, e⟩
    · by_cases hj : j < os.length
      · have hx := List.getElem?_eq_getElem hj
        rw [take_snocN hx, cntI_snoc] at hd
        by_cases e : os[j] = h
        · rw [if_pos e] at hd
          exact ⟨j, by omega, by rw [hx, e], by omega⟩
        · rw [if_neg e] at hd
          omega
      · rw [List.take_of_length_le (by omega)] at hd
        rw [List.take_of_length_le (by omega)] at c
        omega
theorem no_ring (hr : RcL r) (io : ∀ h : Int, 0 ≤ h → h < r.1.length → (cntI h os : Int) = lAt r.1 h) (hk : Kept r.2 os) (hl : Rng r.2 l) : False := by
  have step : ∀ j u, u ∈ l → ¬ u.b < (cntI u.a (os.take j) : Int) := by
    intro j
    induction j using Nat.strongRecOn with
    | ind j ih =>
      intro u hu hd
      obtain ⟨t, ht, e1, e2⟩ := hl.prev hu
      have hn := hr.nt t (hl.mem t ht)
      obtain ⟨i, hi, h1, h2⟩ := cnt_at (os := os) (h := t.c) (d := t.d) hn.d0 j (by rw [e1]; omega)
      exact ih i hi t ht (hk i t.c h1 t (hl.mem t ht) rfl h2)
  obtain ⟨u, hu⟩ : ∃ u, u ∈ l := ⟨l[0]'hl.ne, List.getElem_mem _⟩
  have hn := hr.nt u (hl.mem u hu)
  refine step os.length u hu ?_
  rw [List.take_length, io u.a hn.a0 hn.a1]
  exact hn.b1
/-! ## where no hand may go on there is a ring -/
theorem pigeon {n : Nat} {s : Nat → Nat} (h : ∀ k, s k < n) : ∃ i j, i < j ∧ j ≤ n ∧ s i = s j := by
  apply Classical.byContradiction
  intro no
  have len : ∀ n (l : List Nat), l.Nodup → (∀ x ∈ l, x < n) → l.length ≤ n := by
    intro n
    induction n with
    | zero => intro l _ h; cases l with
      | nil => exact Nat.le_refl _
      | cons x l => exact absurd (h x List.mem_cons_self) (Nat.not_lt_zero _)
    | succ n ih =>
      intro l hn h
      have h1 := ih (l.erase n) (hn.erase n) fun x hx => by
        have h2 := h x (List.mem_of_mem_erase hx)
        have : x ≠ n := fun e => by
          subst e
          exact (List.Nodup.not_mem_erase hn) hx
        omega
      have h2 := List.length_erase_le (a := n) (l := l)
      have h3 : l.length ≤ (l.erase n).length + 1 := by
        by_cases c : n ∈ l
        · rw [List.length_erase_of_mem c]; omega
        · rw [List.erase_of_not_mem c]; omega
      omega
  have := len n ((List.range (n + 1)).map s) (by
    rw [List.nodup_iff_pairwise_ne, List.pairwise_map]
    refine List.Pairwise.imp_of_mem ?_ (List.pairwise_lt_range (n := n + 1))
    intro i j hi hj hij e
    exact no ⟨i, j, hij, by have := List.mem_range.mp hj; omega, e⟩) fun x hx => by
      obtain ⟨k, _, rfl⟩ := List.mem_map.mp hx
      exact h k
  rw [List.length_map, List.length_range] at this
  omega
def backs (g : Nat → Nat) (h0 : Nat) : Nat → Nat
  | 0 => h0
  | k + 1 => g (backs g h0 k)
theorem stuck_ring {P : List Int} (hr : RcL r) (hP : Stuck r P) : ∃ l, Rng r.2 l ∧ l.length ≤ 8 := by
  obtain ⟨hlen, hbd, hfr, hsum⟩ := hP
  -- a hand that is not done
  have ex : ∃ h : Nat, h < r.1.length ∧ lAt P h < lAt r.1 h := by
    apply Classical.byContradiction
    intro no
    have := sum_monoK (l := r.1) (m := P) hlen.symm fun x x0 x1 => by
      apply Classical.byContradiction
      intro c
      exact no ⟨x.toNat, by omega, by rw [show ((x.toNat : Nat) : Int) = x by omega]; omega⟩
    omega
  obtain ⟨h0, hh0, hh1⟩ := ex
  have hold : ∀ h : Nat, h < r.1.length → lAt P h < lAt r.1 h → ∃ t ∈ r.2, t.c = (h : Int) ∧ t.d = lAt P h ∧ lAt P t.a ≤ t.b := fun h a b => by
    have : heldB r.2 P h = true := by
      cases c : heldB r.2 P (h : Int) with
      | true => rfl
      | false =>
        have : (h : Int) ∈ freeL r P := mem_free.mpr ⟨by omega, by omega, b, c⟩
        rw [hfr] at this
        cases this
    exact heldB_iff.mp this
  have hf : ∃ f : Nat → NT4, ∀ h : Nat, h < r.1.length → lAt P h < lAt r.1 h → f h ∈ r.2 ∧ (f h).c = (h : Int) ∧ (f h).d = lAt P h ∧ lAt P (f h).a ≤ (f h).b := by
    refine ⟨fun h => if c : h < r.1.length ∧ lAt P h < lAt r.1 h then Classical.choose (hold h c.1 c.2) else ⟨0, 0, 0, 0⟩, fun h a b => ?_⟩
    have c : h < r.1.length ∧ lAt P h < lAt r.1 h := ⟨a, b⟩
    show (if c : h < r.1.length ∧ lAt P h < lAt r.1 h then Classical.choose (hold h c.1 c.2) else ⟨0, 0, 0, 0⟩) ∈ r.2 ∧ _
    simp only [dif_pos c]
    exact Classical.choose_spec (hold h a b)
  obtain ⟨f, hf⟩ := hf
  -- the hands, back and back
  have hs : ∃ s : Nat → Nat, (∀ k, s k < r.1.length ∧ lAt P ((s k : Nat) : Int) < lAt r.1 ((s k : Nat) : Int)) ∧ ∀ k, ((s (k + 1) : Nat) : Int) = (f (s k)).a := by
    have nx : ∀ h : Nat, h < r.1.length → lAt P h < lAt r.1 h → (f h).a.toNat < r.1.length ∧ lAt P ((f h).a.toNat : Nat) < lAt r.1 ((f h).a.toNat : Nat) ∧ (((f h).a.toNat : Nat) : Int) = (f h).a := fun h a b => by
      obtain ⟨m, _, _, q⟩ := hf h a b
      have hn := hr.nt _ m
      have e : (((f h).a.toNat : Nat) : Int) = (f h).a := by have := hn.a0; omega
      refine ⟨by have := hn.a1; omega, ?_, e⟩
      rw [e]
      have := hn.b1
      omega
    have ok : ∀ k, backs (fun h => (f h).a.toNat) h0 k < r.1.length ∧ lAt P ((backs (fun h => (f h).a.toNat) h0 k : Nat) : Int) < lAt r.1 ((backs (fun h => (f h).a.toNat) h0 k : Nat) : Int) := by
      intro k
      induction k with
      | zero => exact ⟨hh0, hh1⟩
      | succ k ih => exact ⟨(nx _ ih.1 ih.2).1, (nx _ ih.1 ih.2).2.1⟩
    exact ⟨backs (fun h => (f h).a.toNat) h0, ok, fun k => (nx _ (ok k).1 (ok k).2).2.2⟩
  obtain ⟨s, hs1, hs2⟩ := hs
  obtain ⟨i, j, hij, hjn, e⟩ := pigeon (n := r.1.length) (s := s) fun k => (hs1 k).1
  have h8 := hr.ct.len
  refine ⟨(List.range (j - i)).map fun m => f (s (j - 1 - m)), ⟨by rw [List.length_map, List.length_range]; omega, fun t ht => ?_, fun m t u ht hu => ?_⟩, by rw [List.length_map, List.length_range]; omega⟩
  · obtain ⟨m, _, rfl⟩ := List.mem_map.mp ht
    exact (hf _ (hs1 _).1 (hs1 _).2).1
  · rw [List.length_map, List.length_range] at hu
    have hm : m < j - i := by
      have := (List.getElem?_eq_some_iff.mp ht).1
      rwa [List.length_map, List.length_range] at this
    rw [List.getElem?_map, List.getElem?_range hm] at ht
    cases ht
    obtain ⟨_, a2, a3, _⟩ := hf _ (hs1 (j - 1 - m)).1 (hs1 (j - 1 - m)).2
    by_cases c : m + 1 < j - i
    · rw [Nat.mod_eq_of_lt c, List.getElem?_map, List.getElem?_range c] at hu
      cases hu
      obtain ⟨_, _, _, b4⟩ := hf _ (hs1 (j - 1 - (m + 1))).1 (hs1 (j - 1 - (m + 1))).2
      have e2 := hs2 (j - 1 - (m + 1))
      rw [show j - 1 - (m + 1) + 1 = j - 1 - m by omega] at e2
      refine ⟨by rw [a2, e2], ?_⟩
      rw [← e2] at b4
      rw [a3]; exact b4
    · rw [show m + 1 = j - i by omega, Nat.mod_self, List.getElem?_map, List.getElem?_range (by omega)] at hu
      cases hu
      obtain ⟨_, _, _, b4⟩ := hf _ (hs1 (j - 1 - 0)).1 (hs1 (j - 1 - 0)).2
      have e2 := hs2 (j - 1 - 0)
      rw [show j - 1 - 0 + 1 = j by omega] at e2
      have e3 : s (j - 1 - m) = s j := by rw [show j - 1 - m = i by omega, e]
      refine ⟨by rw [a2, e3, e2], ?_⟩
      rw [← e2] at b4
      rw [a3, e3]; exact b4
/-! ## chains of notes -/
inductive Ch (ts : List NT4) (note : NT4) : List NT4 → Int → Int → Prop
  | one : Ch ts note [note] note.c note.d
  | step {c : List NT4} {h m : Int} {t : NT4} (k : Ch ts note c h m) (ht : t ∈ ts) (ha : t.a = h) (hb : m ≤ t.b) : Ch ts note (c ++ [t]) t.c t.d
theorem Ch.len {c : List NT4} {h m : Int} (k : Ch ts note c h m) : 0 < c.length := by
  cases k with
  | one => exact Nat.succ_pos _
  | step k _ _ _ => rw [List.length_append]; exact Nat.succ_pos _
theorem Ch.spec {c : List NT4} {h m : Int} (k : Ch ts note c h m) (hn : note ∈ ts) : c[0]? = some note ∧ (∀ t ∈ c, t ∈ ts) ∧ (∀ i t u, c[i]? = some t → c[i + 1]? = some u → lds t u) ∧ ∃ t, c[c.length - 1]? = some t ∧ t.c = h ∧ t.d = m := by
  induction k with
  | one => exact ⟨rfl, fun t ht => by rw [List.mem_singleton.mp ht]; exact hn, fun i t u _ hu => by simp at hu, note, rfl, rfl, rfl⟩
  | @step c h m t k ht ha hb ih =>
    obtain ⟨i1, i2, i3, w, w1, w2, w3⟩ := ih
    have hc := k.len
    refine ⟨by rw [List.getElem?_append_left hc]; exact i1, fun x hx => ?_, fun i x u hx hu => ?_, t, by rw [List.length_append]; simp, rfl, rfl⟩
    · rcases List.mem_append.mp hx with z | z
      · exact i2 x z
      · rw [List.mem_singleton.mp z]; exact ht
    · by_cases e : i + 1 < c.length
      · rw [List.getElem?_append_left (by omega)] at hx
        rw [List.getElem?_append_left e] at hu
        exact i3 i x u hx hu
      · have hi : i + 1 = c.length := by
          have := (List.getElem?_eq_some_iff.mp hu).1
          rw [List.length_append, List.length_singleton] at this
          omega
        rw [List.getElem?_append_left (by omega)] at hx
        rw [hi, List.getElem?_append_right (Nat.le_refl _), Nat.sub_self] at hu
        cases hu
        rw [show i = c.length - 1 by omega, w1] at hx
        cases hx
        exact ⟨by rw [w2, ha], by rw [w3]; exact hb⟩
theorem Ch.ring {c : List NT4} {h m : Int} (k : Ch ts note c h m) (hn : note ∈ ts) (h1 : h = note.a) (h2 : m ≤ note.b) : Rng ts c := by
  obtain ⟨i1, i2, i3, w, w1, w2, w3⟩ := k.spec hn
  have hc := k.len
  refine ⟨hc, i2, fun i t u ht hu => ?_⟩
  have hi := (List.getElem?_eq_some_iff.mp ht).1
  by_cases e : i + 1 < c.length
  · rw [Nat.mod_eq_of_lt e] at hu
    exact i3 i t u ht hu
  · rw [show i + 1 = c.length by omega, Nat.mod_self, i1] at hu
    cases hu
    rw [show i = c.length - 1 by omega, w1] at ht
    cases ht
    exact ⟨by rw [w2, h1], by rw [w3]; exact h2⟩
theorem ring_ch (hl : Rng ts l) (h0 : l[0]? = some note) : ∃ m, Ch ts note l note.a m ∧ m ≤ note.b := by
  have pre : ∀ k t, l[k]? = some t → Ch ts note (l.take (k + 1)) t.c t.d := by
    intro k
    induction k with
    | zero =>
      intro t ht
      rw [h0] at ht
      cases ht
      have e : l.take (0 + 1) = [note] := by
        rw [take_snocN h0]; rfl
      rw [e]
      exact .one
    | succ k ih =>
      intro t ht
      have hk := (List.getElem?_eq_some_iff.mp ht).1
      have hk' := List.getElem?_eq_getElem (show k < l.length by omega)
      have ld := hl.go k _ t hk' (by rw [Nat.mod_eq_of_lt hk]; exact ht)
      rw [take_snocN ht]
      exact .step (ih _ hk') (hl.mem t (List.mem_of_getElem? ht)) ld.1.symm ld.2
  have hn := hl.ne
  have hk := List.getElem?_eq_getElem (show l.length - 1 < l.length by omega)
  have := pre (l.length - 1) _ hk
  rw [show l.length - 1 + 1 = l.length by omega, List.take_length] at this
  have ld := hl.go (l.length - 1) _ note hk (by rw [show l.length - 1 + 1 = l.length by omega, Nat.mod_self]; exact h0)
  exact ⟨_, by rw [ld.1] at this; exact this, ld.2⟩
/-! ## the program's -/
abbrev Ways := Dc Int (Int × List NT4)
theorem putG_wp2 {κ α : Type} [DecidableEq κ] {k : κ} {a : α} {m : Dc κ α} {Φ : Dc κ α → Prop} (h : m.length ≤ 10000000) (q : Φ (putM m k a)) : (putG m k a).run Φ := ⟨Nat.lt_of_le_of_lt h (by decide), q⟩
structure WInv (ts : List NT4) (note : NT4) (s : Nat) (w : Ways) : Prop where
  sound : ∀ h m c, valM w h = some (m, c) → Ch ts note c h m ∧ c.length ≤ s + 1
  comp : ∀ c h m, Ch ts note c h m → c.length ≤ s + 1 → ∃ m' c', valM w h = some (m', c') ∧ m' ≤ m
  size : w.length ≤ 1 + s * 99000
theorem led_wp {s : Nat} {w : Ways} {Φ : Ways → Prop} (hl : ts.length ≤ 99000) (hs : s ≤ 8) (hW : WInv ts note s w) (q : ∀ w', WInv ts note (s + 1) w' → Φ w') : (m_led_on ts w).run Φ := by
  unfold m_led_on
  simp only [run_bind, run_rt]
  refine forL_wp (fun i (f : Ways) => (∀ h m c, valM f h = some (m, c) → Ch ts note c h m ∧ c.length ≤ s + 2) ∧ (∀ h m c, valM w h = some (m, c) → ∃ m' c', valM f h = some (m', c') ∧ m' ≤ m) ∧
    (∀ t ∈ ts.take i, ∀ m c, valM w t.a = some (m, c) → m ≤ t.b → ∃ m' c', valM f t.c = some (m', c') ∧ m' ≤ t.d) ∧ f.length ≤ 1 + s * 99000 + i)
    ⟨fun h m c e => ⟨(hW.sound h m c e).1, by have := (hW.sound h m c e).2; omega⟩, fun h m c e => ⟨m, c, e, Int.le_refl _⟩, fun t ht => by simp at ht, by have := hW.size; omega⟩ ?_ ?_
  · rintro i t f ht ⟨f1, f2, f3, f4⟩
    have hi := (List.getElem?_eq_some_iff.mp ht).1
    have htm := List.mem_of_getElem? ht
    -- unchanged
    have stay : (∀ m c, valM w t.a = some (m, c) → m ≤ t.b → ∃ m' c', valM f t.c = some (m', c') ∧ m' ≤ t.d) →
        ((∀ h m c, valM f h = some (m, c) → Ch ts note c h m ∧ c.length ≤ s + 2) ∧ (∀ h m c, valM w h = some (m, c) → ∃ m' c', valM f h = some (m', c') ∧ m' ≤ m) ∧
        (∀ u ∈ ts.take (i + 1), ∀ m c, valM w u.a = some (m, c) → m ≤ u.b → ∃ m' c', valM f u.c = some (m', c') ∧ m' ≤ u.d) ∧ f.length ≤ 1 + s * 99000 + (i + 1)) := fun h => by
      refine ⟨f1, f2, fun u hu => ?_, by omega⟩
      rw [take_snocN ht] at hu
      rcases List.mem_append.mp hu with z | z
      · exact f3 u z
      · rw [List.mem_singleton.mp z]; exact h
    unfold m_led_on_L1
    simp only [run_bind, run_rt, run_if, run_opt, run_guard]
    cases ew : valM w t.a with
    | none =>
      rw [if_neg (by simp), if_neg (by simp)]
      exact stay fun m c e => by rw [ew] at e; cases e
    | some p =>
      obtain ⟨m, c⟩ := p
      obtain ⟨w1, w2⟩ := hW.sound _ _ _ ew
      rw [if_pos (by rfl)]
      refine ⟨(m, c), rfl, ?_⟩
      by_cases d : m ≤ t.b
      · rw [if_pos (decide_eq_true d)]
        have put : (valM f t.c = none ∨ ∃ m' c', valM f t.c = some (m', c') ∧ t.d < m') → (putG f t.c (t.d, c ++ [t])).run fun f' => (∀ h m c, valM f' h = some (m, c) → Ch ts note c h m ∧ c.length ≤ s + 2) ∧ (∀ h m c, valM w h = some (m, c) → ∃ m' c', valM f' h = some (m', c') ∧ m' ≤ m) ∧
            (∀ u ∈ ts.take (i + 1), ∀ m c, valM w u.a = some (m, c) → m ≤ u.b → ∃ m' c', valM f' u.c = some (m', c') ∧ m' ≤ u.d) ∧ f'.length ≤ 1 + s * 99000 + (i + 1) := fun hlow => by
          refine putG_wp2 (by omega) ?_
          have low : ∀ m' c', valM f t.c = some (m', c') → t.d ≤ m' := fun m' c' e => by
            rcases hlow with z | ⟨a, b, z1, z2⟩
            · rw [z] at e; cases e
            · rw [z1] at e; cases e; omega
          refine ⟨fun h m1 c1 e => ?_, fun h m1 c1 e => ?_, fun u hu m1 c1 e1 e2 => ?_, Nat.le_trans putM_len (by omega)⟩
          · rw [M.valM_put] at e
            by_cases x : h = t.c
            · rw [if_pos x] at e
              cases e
              subst x
              exact ⟨.step w1 htm rfl d, by rw [List.length_append, List.length_singleton]; omega⟩
            · rw [if_neg x] at e
              exact f1 h m1 c1 e
          · obtain ⟨m', c', e', le⟩ := f2 h m1 c1 e
            rw [M.valM_put]
            by_cases x : h = t.c
            · rw [if_pos x]
              subst x
              exact ⟨t.d, _, rfl, Int.le_trans (low _ _ e') le⟩
            · rw [if_neg x]
              exact ⟨m', c', e', le⟩
          · rw [take_snocN ht] at hu
            rw [M.valM_put]
            rcases List.mem_append.mp hu with z | z
            · obtain ⟨m', c', e', le⟩ := f3 u z m1 c1 e1 e2
              by_cases x : u.c = t.c
              · rw [if_pos x]
                rw [x] at e'
                exact ⟨t.d, _, rfl, Int.le_trans (low _ _ e') le⟩
              · rw [if_neg x]
                exact ⟨m', c', e', le⟩
            · rw [List.mem_singleton.mp z, if_pos rfl]
              exact ⟨t.d, _, rfl, Int.le_refl _⟩
        have gd : c.length + 1 ≤ sizeLine := Nat.le_trans (show c.length + 1 ≤ 100 by omega) (by decide)
        cases ef : valM f t.c with
        | none =>
          rw [if_pos (by rfl), if_pos trivial]
          exact ⟨_, rfl, gd, put (.inl ef)⟩
        | some p' =>
          obtain ⟨m', c'⟩ := p'
          rw [if_neg (by simp)]
          refine ⟨(m', c'), rfl, ?_⟩
          by_cases lt : t.d < m'
          · rw [if_pos (decide_eq_true lt)]
            exact ⟨_, rfl, gd, put (.inr ⟨m', c', ef, lt⟩)⟩
          · rw [if_neg (by simpa using lt)]
            exact stay fun _ _ _ _ => ⟨m', c', ef, by omega⟩
      · rw [if_neg (by simpa using d), if_neg (by simp)]
        exact stay fun m1 c1 e le => by rw [ew] at e; cases e; exact absurd le d
  · rintro f ⟨f1, f2, f3, f4⟩
    rw [List.take_length] at f3
    refine q f ⟨f1, fun c h m k hc => ?_, by omega⟩
    cases k with
    | one =>
      obtain ⟨m', c', e, le⟩ := hW.comp _ _ _ Ch.one (by show 1 ≤ s + 1; omega)
      obtain ⟨m2, c2, e2, le2⟩ := f2 _ _ _ e
      exact ⟨m2, c2, e2, Int.le_trans le2 le⟩
    | @step c0 h0 m0 t k0 ht ha hb =>
      rw [List.length_append, List.length_singleton] at hc
      obtain ⟨m', c', e, le⟩ := hW.comp _ _ _ k0 (by omega)
      exact f3 t ht m' c' (by rw [ha]; exact e) (Int.le_trans le hb)
theorem from_wp {Φ : Option (List NT4) → Prop} (hl : ts.length ≤ 99000) (hn : note ∈ ts) (k1 : (∀ l, Rng ts l → l[0]? = some note → 8 < l.length) → Φ none)
    (k2 : ∀ c, Rng ts c → c.length ≤ 8 → (∀ l, Rng ts l → l[0]? = some note → c.length ≤ l.length) → Φ (some c)) : (m_ring_from ts note).run Φ := by
  unfold m_ring_from
  simp only [run_bind, run_rt, run_guard]
  refine ⟨⟨by decide, by decide, by decide, by decide⟩, ?_⟩
  refine forC_wp (fun s (w : Ways) => WInv ts note s w ∧ ∀ l, Rng ts l → l[0]? = some note → s < l.length) ⟨⟨fun h m c e => ?_, fun c h m k hc => ?_, Nat.le_refl _⟩, fun l hl' _ => hl'.ne⟩ ?_ ?_
  · rw [valM_cons] at e
    by_cases x : note.c = h
    · rw [if_pos x] at e
      cases e
      subst x
      exact ⟨.one, Nat.le_refl _⟩
    · rw [if_neg x] at e; cases e
  · cases k with
    | one => exact ⟨note.d, [note], by rw [valM_cons, if_pos rfl], Int.le_refl _⟩
    | step k0 ht ha hb =>
      have := k0.len
      rw [List.length_append, List.length_singleton] at hc
      omega
  · rintro s x w hx ⟨hW, hlow⟩
    obtain ⟨hs, rfl⟩ := rng_get hx
    have hs : s < 8 := by omega
    unfold m_ring_from_L1
    simp only [run_bind, run_rt, run_if, run_opt]
    have go : (¬ ∃ m c, valM w note.a = some (m, c) ∧ m ≤ note.b) → (m_led_on ts w).run fun w' => WInv ts note (s + 1) w' ∧ ∀ l, Rng ts l → l[0]? = some note → s + 1 < l.length := fun no => by
      refine led_wp hl (by omega) hW fun w' hW' => ⟨hW', fun l hl' h0 => ?_⟩
      have h1 := hlow l hl' h0
      apply Classical.byContradiction
      intro c
      obtain ⟨m, k, le⟩ := ring_ch hl' h0
      obtain ⟨m', c', e, le'⟩ := hW.comp _ _ _ k (by omega)
      exact no ⟨m', c', e, Int.le_trans le' le⟩
    cases ew : valM w note.a with
    | none =>
      rw [if_neg (by simp), if_neg (by simp)]
      exact go fun ⟨m, c, e, _⟩ => by rw [ew] at e; cases e
    | some p =>
      obtain ⟨m, c⟩ := p
      rw [if_pos (by rfl)]
      refine ⟨_, rfl, ?_⟩
      by_cases d : m ≤ note.b
      · rw [if_pos (decide_eq_true d)]
        refine ⟨_, rfl, ?_⟩
        simp only [W.after, run_rt]
        obtain ⟨w1, w2⟩ := hW.sound _ _ _ ew
        exact k2 c (w1.ring hn rfl d) (by omega) fun l hl' h0 => by have := hlow l hl' h0; omega
      · rw [if_neg (by simpa using d)]
        exact go fun ⟨m', c', e, le⟩ => by rw [ew] at e; cases e; exact d le
  · rintro w ⟨_, hlow⟩
    simp only [W.after, run_rt]
    exact k1 fun l hl' h0 => by have := hlow l hl' h0; rw [rng_len] at this; exact this
theorem mnLen_spec {α : Type} {xs : List (List α)} : (mnLen xs = none → xs = []) ∧ ∀ x, mnLen xs = some x → x ∈ xs ∧ ∀ y ∈ xs, x.length ≤ y.length := by
  have key := argBest_lt (fun i => (((xs.map (·.length)).getD i 0 : Nat) : Int)) (xs.length - 1)
  have e : atMin (xs.map (·.length)) = argBest (fun i j => decide ((((xs.map (·.length)).getD i 0 : Nat) : Int) < (((xs.map (·.length)).getD j 0 : Nat) : Int))) (xs.length - 1) := by unfold atMin; rw [List.length_map]
  rw [← e] at key
  have gl : ∀ i x, xs[i]? = some x → (xs.map (·.length)).getD i 0 = x.length := fun i x h => by rw [List.getD_eq_getElem?_getD, List.getElem?_map, h]; rfl
  refine ⟨fun h => ?_, fun x h => ⟨List.mem_of_getElem? h, fun y hy => ?_⟩⟩
  · unfold mnLen at h
    cases xs with
    | nil => rfl
    | cons a xs =>
      have := List.getElem?_eq_none_iff.mp h
      have := key.1
      rw [List.length_cons] at *
      omega
  · obtain ⟨j, hj, rfl⟩ := List.mem_iff_getElem.mp hy
    have h1 := key.2 j (by omega)
    rw [gl _ x h, gl j _ (List.getElem?_eq_getElem hj)] at h1
    omega
theorem ring_wp {Φ : Option (List NT4) → Prop} (hr : RcL r) (k1 : (∀ l, Rng r.2 l → 8 < l.length) → Φ none) (k2 : ∀ c, Rng r.2 c → c.length ≤ 8 → (∀ l, Rng r.2 l → c.length ≤ l.length) → Φ (some c)) : (m_ring r).run Φ := by
  unfold m_ring
  simp only [run_bind, run_rt]
  refine needrec_wp hr.g ?_
  -- what each note tells
  let T : NT4 → Option (List NT4) → Prop := fun note o => match o with
    | none => ∀ l, Rng r.2 l → l[0]? = some note → 8 < l.length
    | some c => Rng r.2 c ∧ c.length ≤ 8 ∧ ∀ l, Rng r.2 l → l[0]? = some note → c.length ≤ l.length
  have hl := hr.len
  have all : ∀ (xs : List NT4), (∀ x ∈ xs, x ∈ r.2) → ∀ acc : List (Option (List NT4)), ∀ Ψ : List (Option (List NT4)) → Prop, (∀ ys : List (Option (List NT4)), ys.length = xs.length → (∀ (i : Nat) x y, xs[i]? = some x → ys[i]? = some y → T x y) → Ψ (acc ++ ys)) →
      (comp xs acc (fun _ => W.ret true) (fun note_ => W.bind (m_ring_from r.2 note_) fun t9 => W.ret t9)).run Ψ := by
    intro xs
    induction xs with
    | nil => exact fun _ acc Ψ q => by have := q [] rfl (fun i x y h => by simp at h); rw [List.append_nil] at this; exact this
    | cons x xs ih =>
      intro hm acc Ψ q
      have : ∀ o, T x o → (comp xs (acc ++ [o]) (fun _ => W.ret true) (fun note_ => W.bind (m_ring_from r.2 note_) fun t9 => W.ret t9)).run Ψ := fun o ho => by
        refine ih (fun y hy => hm y (List.mem_cons_of_mem _ hy)) _ Ψ fun ys e hT => ?_
        have := q (o :: ys) (by rw [List.length_cons, List.length_cons, e]) fun i a b ha hb => by
          cases i with
          | zero => cases ha; cases hb; exact ho
          | succ i => exact hT i a b ha hb
        rw [List.append_assoc]
        exact this
      refine ⟨fun _ => ?_, fun e => absurd e (by decide)⟩
      show (m_ring_from r.2 x).run _
      exact from_wp hl (hm x List.mem_cons_self) (fun h => this none h) fun c a b d => this (some c) ⟨a, b, d⟩
  refine ⟨Nat.le_trans hl (by decide), ?_⟩
  refine all r.2 (fun x h => h) [] _ fun ys e hT => ?_
  rw [List.nil_append]
  -- those that are told
  have fl : ∀ Ψ : List (List NT4) → Prop, Ψ (ys.filterMap id) → (compG ys (fun row_ => W.guard (∀ b, row_ = some b → toPy b ≠ .none) (W.ret (row_.isSome))) (fun row_ => W.bind (W.opt row_) fun t23 => W.ret t23)).run Ψ := fun Ψ q => by
    refine compG_wp (fun o => o.isSome) (fun o => o.getD []) (Nat.le_trans (by rw [e]; exact hl) (by decide)) (fun o _ Ψ q => ?_) (fun o _ ho Ψ q => ?_) ?_
    · simp only [run_guard, run_rt]
      exact ⟨nn, q⟩
    · obtain ⟨c, rfl⟩ := Option.isSome_iff_exists.mp ho
      simp only [run_bind, run_opt, run_rt]
      exact ⟨c, rfl, q⟩
    · have : (ys.filter fun o => o.isSome).map (fun o => o.getD []) = ys.filterMap id := by
        clear q Ψ hT e
        induction ys with
        | nil => rfl
        | cons o ys ih =>
          cases o with
          | none => simpa using ih
          | some c => simpa using ih
      rw [this]
      exact q
  refine fl _ ?_
  obtain ⟨s1, s2⟩ := mnLen_spec (xs := ys.filterMap id)
  -- a ring of eight at most is told by its first note
  have told : ∀ l, Rng r.2 l → l.length ≤ 8 → ∃ c ∈ ys.filterMap id, c.length ≤ l.length := fun l hl' h8 => by
    have hne := hl'.ne
    have h0 := List.getElem?_eq_getElem hne
    obtain ⟨i, hi, ei⟩ := List.mem_iff_getElem.mp (hl'.mem _ (List.getElem_mem hl'.ne))
    have hx : r.2[i]? = some (l[0]'hne) := by rw [List.getElem?_eq_getElem hi, ei]
    have hy := List.getElem?_eq_getElem (show i < ys.length by omega)
    have := hT i _ _ hx hy
    cases eo : ys[i] with
    | none =>
      rw [eo] at this
      have := (show ∀ l, Rng r.2 l → _ → 8 < l.length from this) l hl' h0
      omega
    | some c =>
      rw [eo] at this hy
      exact ⟨c, List.mem_filterMap.mpr ⟨some c, List.mem_of_getElem? hy, rfl⟩, (show _ ∧ _ ∧ ∀ l, Rng r.2 l → _ → c.length ≤ l.length from this).2.2 l hl' h0⟩
  have good : ∀ c ∈ ys.filterMap id, Rng r.2 c ∧ c.length ≤ 8 := fun c hc => by
    obtain ⟨o, ho, eo⟩ := List.mem_filterMap.mp hc
    cases o with
    | none => cases eo
    | some c' =>
      cases eo
      obtain ⟨i, hi, ei⟩ := List.mem_iff_getElem.mp ho
      have hx := List.getElem?_eq_getElem (show i < r.2.length by omega)
      have := hT i _ _ hx (by rw [List.getElem?_eq_getElem hi, ei])
      exact ⟨this.1, this.2.1⟩
  cases em : mnLen (ys.filterMap id) with
  | none =>
    refine k1 fun l hl' => ?_
    apply Classical.byContradiction
    intro c
    obtain ⟨c', hc', _⟩ := told l hl' (by omega)
    rw [s1 em] at hc'
    cases hc'
  | some c =>
    obtain ⟨h1, h2⟩ := s2 c em
    obtain ⟨g1, g2⟩ := good c h1
    refine k2 c g1 g2 fun l hl' => ?_
    by_cases h8 : l.length ≤ 8
    · obtain ⟨c', hc', le⟩ := told l hl' h8
      exact Nat.le_trans (h2 c' hc') le
    · omega
end
end M
/-! # k40: runs that are determined; rings looked for by the law -/
namespace M
open PySem L2 Z
section
variable {r : List Int × List NT4} {os l s cs : List Int} {ts so : List NT4}
theorem n_at4 {l : List NT4} {x : Int} (h0 : 0 ≤ x) (h1 : x < l.length) : ∃ t, atI l x = some t := by
  obtain ⟨y, _, h⟩ := atI_some (xs := l) h0 h1
  exact ⟨y, h⟩
/-- whether a note of a list leads nowhere -/
def badT (ts so : List NT4) (at_ : Int) : Bool := match atI so at_, atI so ((at_ + 1) % (so.length : Int)) with
  | some a, some b => (!inD a ts) || ((!decide (a.c = b.a)) || decide (a.d > b.b))
  | _, _ => false
theorem badT_get {x : Int} (h0 : 0 ≤ x) (h1 : x < so.length) : ∃ a b, atI so x = some a ∧ atI so ((x + 1) % (so.length : Int)) = some b ∧ badT ts so x = ((!inD a ts) || ((!decide (a.c = b.a)) || decide (a.d > b.b))) := by
  obtain ⟨a, ea⟩ := n_at4 h0 h1
  obtain ⟨b, eb⟩ := n_at4 (l := so) (Int.emod_nonneg (x + 1) (by omega)) (Int.emod_lt_of_pos (x + 1) (b := (so.length : Int)) (by omega))
  exact ⟨a, b, ea, eb, by unfold badT; rw [ea, eb]⟩
def goodT (ts so : List NT4) : Bool := !((rng 0 (so.length : Int)).any (badT ts so)) && decide (0 < so.length)
theorem goodT_iff : goodT ts so = true ↔ Rng ts so := by
  have rd : ∀ i : Nat, i < so.length → (badT ts so (i : Int) = false ↔ ∃ a b, so[i]? = some a ∧ so[(i + 1) % so.length]? = some b ∧ a ∈ ts ∧ lds a b) := fun i hi => by
    obtain ⟨a, b, ea, eb, e⟩ := badT_get (ts := ts) (so := so) (x := (i : Int)) (by omega) (by omega)
    have hj : (i + 1) % so.length < so.length := Nat.mod_lt _ (by omega)
    have h1 := List.getElem?_eq_getElem hi
    have h2 := List.getElem?_eq_getElem hj
    rw [atI_nat h1] at ea
    rw [show ((i : Int) + 1) % (so.length : Int) = (((i + 1) % so.length : Nat) : Int) by norm_cast, atI_nat h2] at eb
    rw [e, h1, h2, ea, eb, inD_dec]
    constructor
    · intro h
      simp only [Bool.or_eq_false_iff, Bool.not_eq_false', decide_eq_true_eq, decide_eq_false_iff_not] at h
      exact ⟨a, b, rfl, rfl, h.1, h.2.1, by omega⟩
    · rintro ⟨a', b', e1, e2, h1, h2, h3⟩
      cases e1
      cases e2
      simp only [Bool.or_eq_false_iff, Bool.not_eq_false', decide_eq_true_eq, decide_eq_false_iff_not]
      exact ⟨h1, h2, by omega⟩
  unfold goodT
  rw [Bool.and_eq_true, decide_eq_true_eq, Bool.not_eq_true', List.any_eq_false]
  constructor
  · rintro ⟨h, hne⟩
    have all : ∀ i : Nat, i < so.length → ∃ a b, so[i]? = some a ∧ so[(i + 1) % so.length]? = some b ∧ a ∈ ts ∧ lds a b := fun i hi => (rd i hi).mp (Bool.not_eq_true _ ▸ h (i : Int) (rng_mem.mpr ⟨by omega, by omega⟩))
    refine ⟨hne, fun t ht => ?_, fun i t u ht hu => ?_⟩
    · obtain ⟨i, hi, rfl⟩ := List.mem_iff_getElem.mp ht
      obtain ⟨a, b, e1, _, e3, _⟩ := all i hi
      rw [List.getElem?_eq_getElem hi] at e1
      cases e1
      exact e3
    · obtain ⟨a, b, e1, e2, _, e4⟩ := all i (List.getElem?_eq_some_iff.mp ht).1
      rw [ht] at e1
      rw [hu] at e2
      cases e1
      cases e2
      exact e4
  · intro h
    refine ⟨fun x hx => ?_, h.ne⟩
    obtain ⟨x0, x1⟩ := rng_mem.mp hx
    obtain ⟨i, rfl⟩ : ∃ i : Nat, x = i := ⟨x.toNat, by omega⟩
    have hi : i < so.length := by omega
    have hj : (i + 1) % so.length < so.length := Nat.mod_lt _ (by omega)
    rw [Bool.not_eq_true]
    exact (rd i hi).mpr ⟨_, _, List.getElem?_eq_getElem hi, List.getElem?_eq_getElem hj, h.mem _ (List.getElem_mem _), h.go i _ _ (List.getElem?_eq_getElem hi) (List.getElem?_eq_getElem hj)⟩
theorem shows_b {Φ : Bool → Prop} (hr : RcG r) (hl : so.length ≤ 1000) (q : ∀ b : Bool, (b = true ↔ Rng r.2 so) → Φ b) : (m_ring_shows r so).run Φ := by
  have q := q _ (goodT_iff (ts := r.2) (so := so))
  unfold m_ring_shows
  simp only [run_bind, run_guard]
  refine needrec_wp hr ⟨⟨by decide, by decide, by omega, by omega⟩, ?_⟩
  refine forC_any (badT r.2 so) false (fun x hx Ψ h => ?_) ?_
  · obtain ⟨x0, x1⟩ := rng_mem.mp hx
    obtain ⟨a, b, ea, eb, e⟩ := badT_get (ts := r.2) x0 x1
    unfold m_ring_shows_L1
    simp only [run_bind, run_rt, run_guard, run_if, run_opt]
    refine ⟨a, ea, by omega, b, eb, ⟨okD_pl _, okD_pl _⟩, ?_⟩
    rw [← e]
    split
    · rename_i c; rw [c] at h; exact h
    · rename_i c; rw [if_neg c] at h; exact h
  · unfold goodT at q
    cases c : (rng 0 (so.length : Int)).any (badT r.2 so) with
    | true => rw [c] at q; exact q
    | false =>
      rw [c] at q
      rw [if_neg Bool.false_ne_true]
      have : decide ((so.length : Int) > 0) = decide (0 < so.length) := by
        rw [decide_eq_decide]; omega
      show Φ (decide ((so.length : Int) > 0))
      rw [this]
      exact q
theorem greedy_ord {o : List Int} (hn : nowL r.1.length o = r.1) (hl : (o.length : Int) = r.1.sum) : IsOrd r.1 o := ⟨fun h h0 h1 => by rw [← nowL_at h0 h1, hn], hl⟩
end
section
variable {r : List Int × List NT4} {cs : List Int}
structure Rc2 (r : List Int × List NT4) : Prop where
  ct : CtOk r.1
  nt : ∀ t ∈ r.2, NtOk r.1 t
  len : r.2.length ≤ 60
theorem insX_wp {α : Type} {xs : List α} {i : Int} {x : α} {Φ : List α → Prop} (h : xs.length ≤ 100000) (h0 : 0 ≤ i) (h1 : i ≤ 100000) (k : ∀ ys, ys.length = xs.length + 1 → (∀ y ∈ ys, y ∈ xs ∨ y = x) → Φ ys) : (insL xs i x).run Φ := by
  refine ⟨⟨small' h, h0, by omega⟩, k _ ?_ fun y hy => ?_⟩
  · simp only [List.length_append, List.length_take, List.length_drop, List.length_singleton]; omega
  · simp only [List.mem_append, List.mem_singleton] at hy
    rcases hy with (q | q) | q
    · exact .inl (List.mem_of_mem_take q)
    · exact .inr q
    · exact .inl (List.mem_of_mem_drop q)
theorem eraseP {α : Type} : ∀ {l : List α} {i : Nat} (h : i < l.length), (l[i] :: l.eraseIdx i).Perm l
  | a :: l, 0, _ => List.Perm.refl _
  | a :: l, i + 1, h => by
    have := eraseP (l := l) (i := i) (by simpa using h)
    exact (List.Perm.swap _ _ _).trans (this.cons a)
theorem popX_wp {α : Type} {xs : List α} {i : Int} {Φ : α × List α → Prop} (h0 : 0 ≤ i) (h : i < xs.length) (hl : xs.length ≤ 100000) (k : ∀ x ys, (x :: ys).Perm xs → Φ (x, ys)) : (popI xs i).run Φ := by
  obtain ⟨n, rfl⟩ : ∃ n : Nat, i = n := ⟨i.toNat, by omega⟩
  exact popI_wp (by omega) hl (k _ _ (eraseP (by omega)))
theorem lAt_snoc {l : List Int} {x h : Int} (h0 : 0 ≤ h) : lAt (l ++ [x]) h = if h < l.length then lAt l h else if h = l.length then x else 0 := by
  unfold lAt
  rw [List.getD_eq_getElem?_getD, List.getD_eq_getElem?_getD]
  split
  · rw [List.getElem?_append_left (by omega)]
  · rw [List.getElem?_append_right (by omega)]
    split
    · have : h.toNat - l.length = 0 := by omega
      rw [this]; rfl
    · rw [List.getElem?_eq_none (by simp; omega)]; rfl
theorem lAt_get {l : List Int} {i : Nat} {x : Int} (h : l[i]? = some x) : lAt l (i : Int) = x := by
  unfold lAt
  rw [Int.toNat_natCast, List.getD_eq_getElem?_getD, h]; rfl
theorem lAt_inj {l : List Int} (hn : l.Nodup) {x y : Int} (x0 : 0 ≤ x) (x1 : x < l.length) (y0 : 0 ≤ y) (y1 : y < l.length) (e : lAt l x = lAt l y) : x = y := by
  unfold lAt at e
  rw [List.getD_eq_getElem?_getD, List.getD_eq_getElem?_getD, List.getElem?_eq_getElem (by omega), List.getElem?_eq_getElem (by omega)] at e
  have := (List.getElem_inj hn).mp (show l[x.toNat]'(by omega) = l[y.toNat]'(by omega) from e)
  omega
theorem ring_in_wp {B : Nat} {s : Bag} {near : Bool} {Φ : List NT4 × Bag × (List Int × List NT4) → Prop} (hs : BagOk B s) (hB : B < 2 ^ 37) (hr : RcOk r)
    (q : ∀ loop s' r', loop.length ≤ 8 → Rc2 r' → r'.1 = r.1 → (loop ≠ [] → 0 < r'.2.length) → BagOk (B + 100) s' → Φ (loop, s', r')) : (m_law_ring_in s r near).run Φ := by
  have h8 := hr.ct.len
  have hrl := hr.len
  unfold m_law_ring_in
  simp only [run_bind, run_rt, run_guard]
  refine ⟨⟨by decide, by decide, by omega, by omega⟩, ?_⟩
  refine compG_wp (fun h => decide (lAt r.1 h > 0)) (fun h => h) (small (by rw [rng_len]; omega)) (fun y hy Ψ q => ?_) (fun _ _ _ Ψ q => by exact q) ?_
  · obtain ⟨y1, y2⟩ := rng_mem.mp hy
    simp only [run_bind, run_opt, run_rt]
    exact ⟨_, l_at y1 y2, q⟩
  rw [List.map_id']
  have pw : ((rng 0 (r.1.length : Int)).filter fun h => decide (lAt r.1 h > 0)).Pairwise (· < ·) := (rng_pw _ _).filter _
  have mem : ∀ y, y ∈ ((rng 0 (r.1.length : Int)).filter fun h => decide (lAt r.1 h > 0)) ↔ 0 ≤ y ∧ y < r.1.length ∧ 0 < lAt r.1 y := fun y => by
    rw [List.mem_filter, rng_mem, decide_eq_true_eq, and_assoc]
  have hl : ((rng 0 (r.1.length : Int)).filter fun h => decide (lAt r.1 h > 0)).length ≤ 8 := by
    refine Nat.le_trans (List.length_filter_le _ _) ?_
    rw [rng_len]; omega
  generalize ((rng 0 (r.1.length : Int)).filter fun h => decide (lAt r.1 h > 0)) = sm at pw mem hl ⊢
  have nd : sm.Nodup := pw.imp fun h => by omega
  rw [run_if]
  split
  · simp only [run_rt]
    exact q [] s r (by simp) ⟨hr.ct, hr.nt, by omega⟩ rfl (fun h => absurd rfl h) (hs.mo (by omega))
  · rename_i hlen
    rw [decide_eq_true_eq] at hlen
    simp only [run_bind, run_bind2, run_rt, run_guard]
    refine draw_wp hs (by omega) (by omega) (by omega) fun t s1 t0 t1 hs1 => ⟨⟨by decide, by decide, by omega, by omega⟩, ?_⟩
    dsimp only
    refine forL_wp (fun i (p : Bag × List Int × List Int) => BagOk (B + 1 + i) p.1 ∧ (p.2.2 ++ p.2.1).Perm sm ∧ p.2.2.length = i) ⟨hs1, by exact List.Perm.refl _, rfl⟩ ?_ ?_
    · rintro i x ⟨s, so, hands⟩ hx ⟨q1, q2, q3⟩
      dsimp only at q1 q2 q3
      have hi := (List.getElem?_eq_some_iff.mp hx).1
      rw [rng_len] at hi
      have hsl := q2.length_eq
      rw [List.length_append] at hsl
      unfold m_law_ring_in_L1
      simp only [run_bind, run_bind2, run_rt]
      refine draw_wp q1 (by omega) (by omega) (by omega) fun d s2 d0 d1 hs2 => ?_
      dsimp only
      refine popX_wp d0 d1 (by omega) fun x ys hp => ?_
      refine apd_wp (by omega) ⟨hs2, ?_, by rw [List.length_append, q3]; rfl⟩
      dsimp only
      rw [List.append_assoc]
      exact (List.Perm.append_left hands hp).trans q2
    · rintro ⟨s, so, hands⟩ ⟨q1, q2, q3⟩
      dsimp only at q1 q2 q3
      rw [rng_len] at q1 q3
      have q1 : BagOk (B + 10) s := q1.mo (by omega)
      have hsl := q2.length_eq
      rw [List.length_append] at hsl
      have hnd : hands.Nodup := (List.nodup_append.mp (q2.nodup_iff.mpr nd)).1
      have hm : ∀ y ∈ hands, 0 ≤ y ∧ y < r.1.length ∧ 0 < lAt r.1 y := fun y hy => (mem y).mp (q2.mem_iff.mp (List.mem_append_left _ hy))
      have hat : ∀ j : Int, 0 ≤ j → j < hands.length → 0 ≤ lAt hands j ∧ lAt hands j < r.1.length ∧ 0 < lAt r.1 (lAt hands j) := fun j j0 j1 => hm _ (lAt_mem j0 j1)
      have big : ∀ y : Int, 0 ≤ y → y < r.1.length → lAt r.1 y ≤ 300 := fun y y0 y1 => Int.le_trans (le_sum hr.ct.nn (lAt_mem y0 y1)) hr.ct.sum
      have h2 : 2 ≤ hands.length := by omega
      unfold m_law_ring_in_R2
      simp only [run_bind, run_bind2, run_rt]
      refine compSG_wp (fun i s acc => BagOk (B + 10 + i) s ∧ acc.length = i ∧ ∀ j : Int, 0 ≤ j → j < i → 0 ≤ lAt acc j ∧ lAt acc j < lAt r.1 (lAt hands j)) (small (by omega)) ⟨q1, rfl, fun j j0 j1 => by omega⟩ ?_ ?_
      · rintro i x s acc hx ⟨g1, g2, g3⟩
        have hi := (List.getElem?_eq_some_iff.mp hx).1
        obtain ⟨x0, x1, x2⟩ := hm x (List.mem_of_getElem? hx)
        have bx := big x x0 x1
        simp only [run_bind, run_bind2, run_rt, run_opt]
        refine ⟨_, l_at x0 x1, ?_⟩
        refine draw_wp g1 (by omega) (by omega) (by omega) fun t s1 t0 t1 hs1 => ⟨hs1, by rw [List.length_append, g2]; rfl, fun j j0 j1 => ?_⟩
        rw [lAt_snoc j0]
        split
        · exact g3 j j0 (by omega)
        · have : j = (i : Int) := by omega
          rw [if_pos (by omega), this, lAt_get hx]
          exact ⟨t0, t1⟩
      · rintro s leaves ⟨g1, g2, g3⟩
        have g1 : BagOk (B + 20) s := g1.mo (by omega)
        dsimp only
        refine compSG_wp (fun i s acc => BagOk (B + 20 + i) s ∧ acc.length = i ∧ ∀ j : Int, 0 ≤ j → j < i → 0 ≤ lAt acc j ∧ lAt acc j < lAt r.1 (lAt hands j)) (small (by omega)) ⟨g1, rfl, fun j j0 j1 => by omega⟩ ?_ ?_
        · rintro i x s acc hx ⟨e1, e2, e3⟩
          have hi := (List.getElem?_eq_some_iff.mp hx).1
          have hb := g3 (i : Int) (by omega) (by omega)
          have hh := hat (i : Int) (by omega) (by omega)
          have bb := big _ hh.1 hh.2.1
          rw [lAt_get hx] at hb
          simp only [run_bind2, run_rt]
          refine draw_wp e1 (by omega) (by omega) (by omega) fun t s1 t0 t1 hs1 => ⟨hs1, by rw [List.length_append, e2]; rfl, fun j j0 j1 => ?_⟩
          rw [lAt_snoc j0]
          split
          · exact e3 j j0 (by omega)
          · have : j = (i : Int) := by omega
            rw [if_pos (by omega), this]
            exact ⟨t0, by omega⟩
        · rintro s comes ⟨e1, e2, e3⟩
          have e1 : BagOk (B + 30) s := e1.mo (by omega)
          dsimp only
          refine draw_wp e1 (by omega) (by omega) (by omega) fun at_ s2 a0 a1 hs2 => ?_
          dsimp only
          have last : ∀ comes : List Int, comes.length = hands.length → (∀ j : Int, 0 ≤ j → j < hands.length → 0 ≤ lAt comes j ∧ lAt comes j < lAt r.1 (lAt hands j)) → (m_law_ring_in_R1 s2 r.1 r.2 hands leaves comes).run Φ := by
            intro comes c1 c2
            unfold m_law_ring_in_R1
            simp only [run_bind, run_rt, run_guard]
            refine ⟨⟨by decide, by decide, by omega, by omega⟩, ?_⟩
            refine forL_wp (fun i (p : Bag × List NT4 × List NT4) => BagOk (B + 31 + i) p.1 ∧ p.2.1.length = r.2.length + i ∧ (∀ t ∈ p.2.1, NtOk r.1 t) ∧ p.2.2.length = i) ⟨hs2, by show r.2.length = r.2.length + 0; rfl, hr.nt, rfl⟩ ?_ ?_
            · rintro i j ⟨s, ties, loop⟩ hj ⟨f1, f2, f3, f4⟩
              dsimp only at f1 f2 f3 f4
              obtain ⟨hi, rfl⟩ := rng_get hj
              have hil : i < hands.length := by omega
              rw [Int.zero_add]
              unfold m_law_ring_in_L2
              simp only [run_bind, run_bind2, run_rt, run_guard, run_opt]
              have to0 := Int.emod_nonneg ((i : Int) + 1) (b := (hands.length : Int)) (by omega)
              have to1 := Int.emod_lt_of_pos ((i : Int) + 1) (b := (hands.length : Int)) (by omega)
              have tne : ((i : Int) + 1) % (hands.length : Int) ≠ (i : Int) := by
                by_cases c : (i : Int) + 1 < hands.length
                · rw [Int.emod_eq_of_lt (by omega) c]; omega
                · have : (i : Int) + 1 = hands.length := by omega
                  rw [this, Int.emod_self]; omega
              generalize ((i : Int) + 1) % (hands.length : Int) = to at to0 to1 tne ⊢
              refine ⟨by omega, _, l_at (by omega) (by omega), _, l_at (by omega) (by omega), _, l_at to0 to1, _, l_at to0 (by omega), ?_⟩
              refine apd_wp (by omega) ?_
              refine draw_wp f1 (by omega) (by omega) (by omega) fun d s3 d0 d1 hs3 => ⟨_, at_last, ?_⟩
              dsimp only at d1 ⊢
              have h1 := hat (i : Int) (by omega) (by omega)
              have h2 := hat to to0 to1
              have l1 := g3 (i : Int) (by omega) (by omega)
              have l2 := c2 to to0 to1
              refine insX_wp (by omega) d0 (by omega) fun ys y1 y2 => ⟨hs3, by omega, fun t ht => ?_, by rw [List.length_append, f4]; rfl⟩
              rcases y2 t ht with z | z
              · exact f3 t z
              · rw [z]
                exact ⟨h1.1, h1.2.1, l1.1, l1.2, h2.1, h2.2.1, l2.1, l2.2, fun e => tne (lAt_inj hnd (by omega) (by omega) to0 to1 e).symm⟩
            · rintro ⟨s, ties, loop⟩ ⟨f1, f2, f3, f4⟩
              dsimp only at f1 f2 f3 f4
              rw [rng_len] at f1 f2 f4
              exact q loop s (r.1, ties) (by omega) ⟨hr.ct, f3, by dsimp only; omega⟩ rfl (fun _ => by dsimp only; omega) (f1.mo (by omega))
          simp only [run_if]
          have al : at_ < leaves.length := by omega
          have ac : at_ < comes.length := by omega
          have ha := hat at_ a0 a1
          split
          · simp only [run_bind, run_rt, run_opt]
            refine ⟨_, l_at a0 al, _, l_at a0 a1, _, l_at ha.1 ha.2.1, ?_⟩
            split
            · rename_i c
              rw [decide_eq_true_eq] at c
              refine ⟨_, l_at a0 al, sti_wp a0 ac (last _ (by rw [List.length_set]; omega) fun j j0 j1 => ?_)⟩
              have lb := g3 at_ a0 (by omega)
              rw [lAt_set a0 ac j0]
              split
              · rename_i e; rw [e]; omega
              · exact e3 j j0 (by omega)
            · exact last comes (by omega) fun j j0 j1 => e3 j j0 (by omega)
          · simp only [Bool.false_eq_true, if_false, run_rt]
            exact last comes (by omega) fun j j0 j1 => e3 j j0 (by omega)
end
/-! ### a run that is determined -/
def Det {α : Type} (c : W α) : Prop := ∀ Φ : α → Prop, c.run Φ → ∃ a, Φ a ∧ c.run fun b => b = a
section
variable {α β S ρ : Type}
theorem det_ret {a : α} : Det (W.ret a) := fun Φ h => ⟨a, h, rfl⟩
theorem det_bad : Det (W.bad : W α) := fun Φ h => h.elim
theorem det_opt {o : Option α} : Det (W.opt o) := fun Φ ⟨a, e, q⟩ => ⟨a, q, a, e, rfl⟩
theorem det_bind {c : W α} {f : α → W β} (h : Det c) (k : ∀ a, Det (f a)) : Det (W.bind c f) := fun Φ q => by
  rw [run_bind] at q
  obtain ⟨a, qa, ha⟩ := h _ q
  obtain ⟨b, qb, hb⟩ := k a _ qa
  refine ⟨b, qb, ?_⟩
  rw [run_bind]
  exact run_mono ha fun x hx => by rw [hx]; exact hb
theorem det_guard {p : Prop} {c : W α} (h : Det c) : Det (W.guard p c) := fun Φ q => by
  obtain ⟨a, qa, ha⟩ := h _ q.2
  exact ⟨a, qa, q.1, ha⟩
theorem det_ite {b : Bool} {x y : W α} (h1 : Det x) (h2 : Det y) : Det (W.ite b x y) := fun Φ q => by
  rw [run_if] at q
  cases b with
  | true =>
    rw [if_pos rfl] at q
    obtain ⟨a, qa, ha⟩ := h1 _ q
    exact ⟨a, qa, by rw [run_if, if_pos rfl]; exact ha⟩
  | false =>
    rw [if_neg (by decide)] at q
    obtain ⟨a, qa, ha⟩ := h2 _ q
    exact ⟨a, qa, by rw [run_if, if_neg (by decide)]; exact ha⟩
theorem det_forL {f : α → S → W S} (h : ∀ x s, Det (f x s)) : ∀ (xs : List α) (s : S), Det (W.forL xs s f)
  | [], s => det_ret
  | x :: xs, s => det_bind (h x s) fun s' => det_forL h xs s'
theorem det_forC {f : α → S → W (Ctl ρ S)} (h : ∀ x s, Det (f x s)) : ∀ (xs : List α) (s : S), Det (W.forC xs s f)
  | [], s => det_ret
  | x :: xs, s => det_bind (h x s) fun c => match c with
    | .nx s' => det_forC h xs s'
    | .bk s' => det_ret
    | .rt r => det_ret
theorem det_comp {ct : α → W Bool} {cf : α → W β} (h1 : ∀ x, Det (ct x)) (h2 : ∀ x, Det (cf x)) : ∀ (xs : List α) (acc : List β), Det (comp xs acc ct cf)
  | [], acc => det_ret
  | x :: xs, acc => det_bind (h1 x) fun b => det_ite (det_bind (h2 x) fun y => det_comp h1 h2 xs _) (det_comp h1 h2 xs _)
theorem det_compG {xs : List α} {ct : α → W Bool} {cf : α → W β} (h1 : ∀ x, Det (ct x)) (h2 : ∀ x, Det (cf x)) : Det (compG xs ct cf) := det_guard (det_comp h1 h2 xs [])
theorem det_after {c : Ctl ρ S} {k : S → W ρ} (h : ∀ s, Det (k s)) : Det (W.after c k) := by
  cases c with
  | nx s => exact h s
  | bk s => exact h s
  | rt r => exact det_ret
end
theorem det_touch {c : List Int} {h k : Int} : Det (m_is_touch c h k) := by
  unfold m_is_touch
  repeat with_reducible (first | exact det_ret | exact det_opt | refine det_guard ?_ | refine det_ite ?_ ?_ | refine det_bind ?_ (fun _ => ?_))
theorem det_need {r : List Int × List NT4} : Det (m_need_record r) := by
  unfold m_need_record
  refine det_bind det_ret fun _ => det_bind det_ret fun _ => det_bind det_ret fun _ => det_bind det_ret fun _ => det_bind (det_forL (fun x s => ?_) _ _) fun _ => det_ret
  unfold m_need_record_L1
  repeat with_reducible (first | exact det_ret | exact det_bad | exact det_touch | exact det_opt | refine det_guard ?_ | refine det_ite ?_ ?_ | refine det_bind ?_ (fun _ => ?_))
theorem det_led {ts : List NT4} {w : Ways} : Det (m_led_on ts w) := by
  unfold m_led_on
  refine det_bind det_ret fun _ => det_bind (det_forL (fun x s => ?_) _ _) fun _ => det_ret
  unfold m_led_on_L1 putG
  repeat with_reducible (first | exact det_ret | exact det_opt | refine det_guard ?_ | refine det_ite ?_ ?_ | refine det_bind ?_ (fun _ => ?_))
theorem det_from {ts : List NT4} {t : NT4} : Det (m_ring_from ts t) := by
  unfold m_ring_from
  refine det_bind det_ret fun _ => det_guard (det_bind (det_forC (fun x s => ?_) _ _) fun _ => det_after fun _ => det_ret)
  unfold m_ring_from_L1
  repeat with_reducible (first | exact det_ret | exact det_led | exact det_opt | refine det_guard ?_ | refine det_ite ?_ ?_ | refine det_bind ?_ (fun _ => ?_))
theorem det_ring {r : List Int × List NT4} : Det (m_ring r) := by
  unfold m_ring
  refine det_bind det_ret fun _ => det_bind det_ret fun _ => det_bind det_need fun _ => det_bind (det_compG (fun _ => det_ret) fun _ => det_bind det_from fun _ => det_ret) fun _ => det_bind det_ret fun _ => det_bind (det_compG (fun _ => det_guard det_ret) fun _ => det_bind det_opt fun _ => det_ret) fun _ => det_ret
/-! ### the law looks for rings, note by note -/
section
variable {ts l : List NT4} {first here : NT4}
theorem Rng.on {ts us : List NT4} (h : Rng ts l) (e : ∀ t, t ∈ ts → t ∈ us) : Rng us l := ⟨h.ne, fun t ht => e t (h.mem t ht), h.go⟩
abbrev Stp := Dc NT4 Int
/-- what stands in the row, and how many notes lead there -/
structure BI (ts : List NT4) (first : NT4) (st : Stp) (row : List NT4) (at_ : Nat) : Prop where
  nd : row.Nodup
  sub : ∀ x ∈ row, x ∈ ts
  h0 : row[0]? = some first
  dom : ∀ x, (valM st x).isSome = true ↔ x ∈ row
  v0 : valM st first = some 1
  ch : ∀ x k, valM st x = some k → ∃ c, Ch ts first c x.c x.d ∧ (c.length : Int) = k
  mono : ∀ (i j : Nat) x y k m, i ≤ j → row[i]? = some x → row[j]? = some y → valM st x = some k → valM st y = some m → k ≤ m
  top : ∀ x y k m, row[at_]? = some x → y ∈ row → valM st x = some k → valM st y = some m → m ≤ k + 1
  done : ∀ (i : Nat) x, i < at_ → row[i]? = some x → ¬ lds x first ∧ ∀ t ∈ ts, lds x t → t ∈ row ∧ ∀ k m, valM st x = some k → valM st t = some m → m ≤ k + 1
  sz : st.length ≤ row.length
theorem BI.len {st : Stp} {row : List NT4} {at_ : Nat} (b : BI ts first st row at_) : row.length ≤ ts.length := by
  have : ∀ (a b : List NT4), a.Nodup → (∀ x ∈ a, x ∈ b) → a.length ≤ b.length := by
    intro a
    induction a with
    | nil => intro b _ _; exact Nat.zero_le _
    | cons x a ih =>
      intro b hn hs
      have hx := hs x List.mem_cons_self
      have h1 := ih (b.erase x) (List.nodup_cons.mp hn).2 fun y hy => by
        have ne : y ≠ x := fun e => (List.nodup_cons.mp hn).1 (e ▸ hy)
        exact (List.mem_erase_of_ne ne).mpr (hs y (List.mem_cons_of_mem _ hy))
      have h2 := List.length_erase_of_mem hx
      have := List.length_pos_of_mem hx
      rw [List.length_cons]
      omega
  exact this _ _ b.nd b.sub
/-- along a ring: all is gone through up to here, or a note of it waits in the row -/
theorem BI.along {st : Stp} {row : List NT4} {at_ : Nat} (b : BI ts first st row at_) (hl : Rng ts l) (h0 : l[0]? = some first) : ∀ (j : Nat) (t : NT4), l[j]? = some t →
    (∃ (j' idx : Nat) (u : NT4) (k : Int), j' ≤ j ∧ at_ ≤ idx ∧ row[idx]? = some u ∧ valM st u = some k ∧ k ≤ j' + 1) ∨ ∃ (idx : Nat) (k : Int), idx < at_ ∧ row[idx]? = some t ∧ valM st t = some k ∧ k ≤ j + 1
  | 0, t, e => by
    rw [h0] at e
    cases e
    by_cases c : at_ = 0
    · exact .inl ⟨0, 0, first, 1, Nat.le_refl _, by omega, b.h0, b.v0, by simp⟩
    · exact .inr ⟨0, 1, by omega, b.h0, b.v0, by simp⟩
  | j + 1, t, e => by
    have hj := (List.getElem?_eq_some_iff.mp e).1
    have ej := List.getElem?_eq_getElem (show j < l.length by omega)
    rcases b.along hl h0 j _ ej with ⟨j', idx, u, k, h1, h2, h3, h4, h5⟩ | ⟨idx, k, h1, h2, h3, h4⟩
    · exact .inl ⟨j', idx, u, k, by omega, h2, h3, h4, h5⟩
    · have ld := hl.go j _ t ej (by rw [Nat.mod_eq_of_lt hj]; exact e)
      obtain ⟨m1, m2⟩ := (b.done idx _ h1 h2).2 t (hl.mem t (List.mem_of_getElem? e)) ld
      obtain ⟨m, em⟩ := Option.isSome_iff_exists.mp ((b.dom t).mpr m1)
      have le := m2 _ _ h3 em
      obtain ⟨ix, hx⟩ := List.mem_iff_getElem?.mp m1
      by_cases c : ix < at_
      · exact .inr ⟨ix, m, c, hx, em, by push_cast; omega⟩
      · exact .inl ⟨j + 1, ix, t, m, Nat.le_refl _, by omega, hx, em, by push_cast; omega⟩
theorem BI.ring {st : Stp} {row : List NT4} {at_ : Nat} (b : BI ts first st row at_) (hl : Rng ts l) (h0 : l[0]? = some first) : ∃ (idx : Nat) (u : NT4) (k : Int), at_ ≤ idx ∧ row[idx]? = some u ∧ valM st u = some k ∧ k ≤ l.length := by
  have hn := hl.ne
  have e := List.getElem?_eq_getElem (show l.length - 1 < l.length by omega)
  rcases b.along hl h0 _ _ e with ⟨j', idx, u, k, h1, h2, h3, h4, h5⟩ | ⟨idx, k, h1, h2, h3, h4⟩
  · exact ⟨idx, u, k, h2, h3, h4, by omega⟩
  · have ld := hl.go (l.length - 1) _ first e (by rw [show l.length - 1 + 1 = l.length by omega, Nat.mod_self]; exact h0)
    exact absurd ld (b.done idx _ h1 h2).1
theorem leads_wp {t u : NT4} {Φ : Bool → Prop} (q : ∀ b, (b = true ↔ lds t u) → Φ b) : (m_law_leads t u).run Φ := by
  unfold m_law_leads
  rw [run_rt]
  refine q _ ?_
  unfold lds
  simp
theorem lst40_wp {Φ : Int → Prop} (hl : ts.length ≤ 1000) (hf : first ∈ ts) (q0 : (∀ l, Rng ts l → l[0]? = some first → False) → Φ 0)
    (q : ∀ l, Rng ts l → (∀ l', Rng ts l' → l'[0]? = some first → l.length ≤ l'.length) → Φ (l.length : Int)) : (m_law_least ts first).run Φ := by
  unfold m_law_least
  simp only [run_bind, run_rt]
  refine while_wp (fun s : Stp × List NT4 × Int => ∃ a : Nat, s.2.2 = a ∧ BI ts first s.1 s.2.1 a ∧ a ≤ s.2.1.length) (fun s => ts.length + 1 - s.2.2.toNat) ⟨0, rfl, ⟨by simp, by simpa using hf, rfl, fun x => ?_, ?_, fun x k e => ?_, fun i j x y k m hij ex ey e1 e2 => ?_, fun x y k m ex hy e1 e2 => ?_, fun i x hi => absurd hi (Nat.not_lt_zero _), Nat.le_refl _⟩, Nat.zero_le _⟩ ?_
  · rw [valM_cons]
    by_cases c : first = x
    · rw [if_pos c]; simp [c]
    · rw [if_neg c]; exact ⟨fun h => (by cases h), fun h => absurd (List.mem_singleton.mp h).symm c⟩
  · rw [valM_cons, if_pos rfl]
  · rw [valM_cons] at e
    by_cases c : first = x
    · rw [if_pos c] at e
      cases e
      subst c
      exact ⟨_, .one, rfl⟩
    · rw [if_neg c] at e; cases e
  · have hi := (List.getElem?_eq_some_iff.mp ex).1
    have hj := (List.getElem?_eq_some_iff.mp ey).1
    have : i = 0 ∧ j = 0 := by simp at hi hj; omega
    obtain ⟨rfl, rfl⟩ := this
    cases ex
    cases ey
    rw [e1] at e2
    cases e2
    omega
  · have hi := (List.getElem?_eq_some_iff.mp ex).1
    cases ex
    rw [List.mem_singleton.mp hy, e1] at e2
    cases e2
    omega
  · rintro ⟨st, row, a'⟩ ⟨a, rfl, b, ha⟩
    dsimp only at b ha ⊢
    have bl := b.len
    unfold m_law_least_L2
    rw [run_if]
    by_cases c : a < row.length
    · rw [if_pos (decide_eq_true (by omega))]
      have eh := List.getElem?_eq_getElem c
      generalize row[a] = here at eh
      have hm := List.mem_of_getElem? eh
      obtain ⟨kh, ekh⟩ := Option.isSome_iff_exists.mp ((b.dom here).mpr hm)
      simp only [run_bind, run_rt, run_opt]
      refine ⟨here, atI_nat eh, leads_wp fun lb hlb => ?_⟩
      rw [run_if]
      by_cases d : lb = true
      · rw [if_pos d]
        have ld := hlb.mp d
        refine ⟨kh, ekh, ?_⟩
        obtain ⟨c', k', e'⟩ := b.ch here kh ekh
        show Φ kh
        rw [← e']
        refine q c' (k'.ring hf ld.1 ld.2) fun l' hl' h0 => ?_
        obtain ⟨idx, u, k, h1, h2, h3, h4⟩ := b.ring hl' h0
        have := b.mono a idx here u kh k h1 eh h2 ekh h3
        omega
      · rw [if_neg d]
        have nld : ¬ lds here first := fun e => d (hlb.mpr e)
        rw [run_bind]
        -- the notes behind this one are put in
        refine forL_wp (fun j (s : Stp × List NT4) => BI ts first s.1 s.2 a ∧ s.2[a]? = some here ∧ valM s.1 here = some kh ∧ ∀ t ∈ ts.take j, lds here t → t ∈ s.2) ⟨b, eh, ekh, by simp⟩ ?_ ?_
        · rintro j t ⟨st, row⟩ ht ⟨b, eh, ekh, al⟩
          dsimp only at b eh ekh al ⊢
          have htm := List.mem_of_getElem? ht
          have bl := b.len
          unfold m_law_least_L1
          have ext : ∀ u ∈ ts.take (j + 1), u ∈ ts.take j ∨ u = t := fun u hu => by
            rw [take_snocN ht] at hu
            rcases List.mem_append.mp hu with z | z
            · exact .inl z
            · exact .inr (List.mem_singleton.mp z)
          simp only [run_bind, run_if, run_rt]
          have stay : (t ∈ row ∨ ¬ lds here t) → BI ts first st row a ∧ row[a]? = some here ∧ valM st here = some kh ∧ ∀ t ∈ ts.take (j + 1), lds here t → t ∈ row := fun h => ⟨b, eh, ekh, fun u hu ld => by
            rcases ext u hu with z | rfl
            · exact al u z ld
            · rcases h with h | h
              · exact h
              · exact absurd ld h⟩
          cases ev : valM st t with
          | some x =>
            rw [if_neg (by simp), if_neg (by decide)]
            exact stay (.inl ((b.dom t).mp (by rw [ev]; rfl)))
          | none =>
            rw [if_pos (by simp)]
            refine leads_wp fun lb hlb => ?_
            by_cases d : lb = true
            · rw [if_pos d]
              have ld := hlb.mp d
              have nin : t ∉ row := fun h => by
                have := (b.dom t).mpr h
                rw [ev] at this
                cases this
              simp only [run_bind, run_opt, run_rt]
              refine ⟨kh, ekh, ?_⟩
              refine putG_wp2 (by have := b.sz; omega) ?_
              refine apd_wp (by omega) ?_
              have hp : ∀ x, valM (putM st t (kh + 1)) x = if x = t then some (kh + 1) else valM st x := fun x => M.valM_put
              have hne : here ≠ t := fun e => nin (e ▸ List.mem_of_getElem? eh)
              have old : ∀ {i : Nat} {x : NT4}, row[i]? = some x → (row ++ [t])[i]? = some x := fun e => by rw [List.getElem?_append_left (List.getElem?_eq_some_iff.mp e).1]; exact e
              have cas : ∀ {i : Nat} {x : NT4}, (row ++ [t])[i]? = some x → (row[i]? = some x ∧ x ≠ t) ∨ (i = row.length ∧ x = t) := fun {i x} e => by
                by_cases hi : i < row.length
                · rw [List.getElem?_append_left hi] at e
                  exact .inl ⟨e, fun c => nin (c ▸ List.mem_of_getElem? e)⟩
                · have h2 := (List.getElem?_eq_some_iff.mp e).1
                  rw [List.length_append, List.length_singleton] at h2
                  have : i = row.length := by omega
                  subst this
                  rw [List.getElem?_append_right (Nat.le_refl _), Nat.sub_self] at e
                  cases e
                  exact .inr ⟨rfl, rfl⟩
              have vold : ∀ {x : NT4} {k : Int}, x ≠ t → valM (putM st t (kh + 1)) x = some k → valM st x = some k := fun ne e => by rw [hp, if_neg ne] at e; exact e
              have vnew : ∀ {k : Int}, valM (putM st t (kh + 1)) t = some k → k = kh + 1 := fun e => by rw [hp, if_pos rfl] at e; cases e; rfl
              refine ⟨⟨?_, fun x hx => ?_, old b.h0, fun x => ?_, ?_, fun x k e => ?_, fun i i2 x y k m hij ex ey e1 e2 => ?_, fun x y k m ex hy e1 e2 => ?_, fun i x hi ex => ?_, ?_⟩, old eh, ?_, fun u hu ld' => ?_⟩
              · rw [List.nodup_append]
                exact ⟨b.nd, by simp, fun x hx y hy e => nin (by rw [List.mem_singleton.mp hy] at e; exact e ▸ hx)⟩
              · rcases List.mem_append.mp hx with z | z
                · exact b.sub x z
                · rw [List.mem_singleton.mp z]; exact htm
              · rw [hp, List.mem_append, List.mem_singleton]
                by_cases e : x = t
                · rw [if_pos e]; simp [e]
                · rw [if_neg e, b.dom x]; simp [e]
              · have : first ≠ t := fun e => nin (e ▸ List.mem_of_getElem? b.h0)
                rw [hp, if_neg this]
                exact b.v0
              · by_cases c : x = t
                · subst c
                  rw [vnew e]
                  obtain ⟨c', k', e'⟩ := b.ch here kh ekh
                  exact ⟨_, .step k' htm ld.1.symm ld.2, by rw [List.length_append, List.length_singleton]; push_cast; omega⟩
                · exact b.ch x k (vold c e)
              · rcases cas ex with ⟨ex, nx⟩ | ⟨rfl, rfl⟩
                · have mx : x ∈ row := List.mem_of_getElem? ex
                  rcases cas ey with ⟨ey, ny⟩ | ⟨_, ey⟩
                  · exact b.mono i i2 x y k m hij ex ey (vold nx e1) (vold ny e2)
                  · rw [ey] at e2
                    rw [vnew e2]
                    exact b.top here x kh k eh mx ekh (vold nx e1)
                · rcases cas ey with ⟨ey, ny⟩ | ⟨_, ey⟩
                  · have := (List.getElem?_eq_some_iff.mp ey).1
                    omega
                  · rw [ey] at e2
                    rw [vnew e1, vnew e2]; omega
              · rcases cas ex with ⟨ex, nx⟩ | ⟨ex, rfl⟩
                · rw [eh] at ex
                  cases ex
                  have := vold nx e1
                  rw [ekh] at this
                  cases this
                  rcases List.mem_append.mp hy with z | z
                  · have ny : y ≠ t := fun c => nin (c ▸ z)
                    exact b.top here y kh m eh z ekh (vold ny e2)
                  · rw [List.mem_singleton.mp z] at e2
                    rw [vnew e2]; omega
                · have := (List.getElem?_eq_some_iff.mp eh).1
                  omega
              · rcases cas ex with ⟨ex, nx⟩ | ⟨e, rfl⟩
                · obtain ⟨d1, d2⟩ := b.done i x hi ex
                  refine ⟨d1, fun u hu ldu => ?_⟩
                  obtain ⟨d3, d4⟩ := d2 u hu ldu
                  have nu : u ≠ t := fun c => nin (c ▸ d3)
                  exact ⟨List.mem_append_left _ d3, fun k m f1 f2 => d4 k m (vold nx f1) (vold nu f2)⟩
                · have := (List.getElem?_eq_some_iff.mp eh).1
                  omega
              · rw [List.length_append, List.length_singleton]
                exact Nat.le_trans putM_len (by have := b.sz; omega)
              · rw [hp, if_neg hne]; exact ekh
              · rcases ext u hu with z | rfl
                · exact List.mem_append_left _ (al u z ld')
                · simp
            · rw [if_neg d]
              exact stay (.inr fun e => d (hlb.mpr e))
        · rintro ⟨st, row⟩ ⟨b, eh, ekh, al⟩
          dsimp only at b eh ekh al
          rw [List.take_length] at al
          have hlt := (List.getElem?_eq_some_iff.mp eh).1
          have bl := b.len
          rw [run_rt]
          refine ⟨⟨a + 1, rfl, ⟨b.nd, b.sub, b.h0, b.dom, b.v0, b.ch, b.mono, fun x y k m ex hy e1 e2 => ?_, fun i x hi ex => ?_, b.sz⟩, hlt⟩, ?_⟩
          · have h1 := b.mono a (a + 1) here x kh k (Nat.le_succ _) eh ex ekh e1
            have h2 := b.top here y kh m eh hy ekh e2
            omega
          · by_cases c : i = a
            · subst c
              rw [eh] at ex
              cases ex
              refine ⟨nld, fun t ht ld => ⟨al t ht ld, fun k m e1 e2 => ?_⟩⟩
              rw [ekh] at e1
              cases e1
              exact b.top here t kh m eh (al t ht ld) ekh e2
            · exact b.done i x (by omega) ex
          · dsimp only
            omega
    · rw [if_neg (by simp; omega), run_rt]
      show Φ 0
      refine q0 fun l' hl' h0 => ?_
      obtain ⟨idx, u, k, h1, h2, _⟩ := b.ring hl' h0
      have := (List.getElem?_eq_some_iff.mp h2).1
      omega
/-- how few notes a ring has -/
theorem few40_wp {Φ : Int → Prop} (hl : ts.length ≤ 1000) (q0 : (∀ l, Rng ts l → False) → Φ 0)
    (q : ∀ l, Rng ts l → (∀ l', Rng ts l' → l.length ≤ l'.length) → Φ (l.length : Int)) : (m_law_fewest ts).run Φ := by
  have mem : ∀ t, t ∈ srtK (ddK ts) ↔ t ∈ ts := fun t => (srtK_perm _).mem_iff.trans ddK_mem
  have len : (srtK (ddK ts)).length ≤ 1000 := by
    rw [(srtK_perm _).length_eq]
    have : ∀ xs : List NT4, (ddK xs).length ≤ xs.length := fun xs => by
      induction xs with
      | nil => exact Nat.le_refl _
      | cons x xs ih =>
        unfold ddK
        split
        · exact Nat.le_succ_of_le ih
        · simpa using ih
    exact Nat.le_trans (this ts) hl
  have on : ∀ {l}, Rng (srtK (ddK ts)) l → Rng ts l := fun h => h.on fun t ht => (mem t).mp ht
  have no : ∀ {l}, Rng ts l → Rng (srtK (ddK ts)) l := fun h => h.on fun t ht => (mem t).mpr ht
  unfold m_law_fewest
  rw [run_guard, run_bind, run_rt, run_bind]
  refine ⟨by omega, ?_⟩
  -- what each note tells
  let T : NT4 → Int → Prop := fun note k => (k = 0 ∧ ∀ l, Rng ts l → l[0]? = some note → False) ∨ ∃ l, Rng ts l ∧ k = (l.length : Int) ∧ ∀ l', Rng ts l' → l'[0]? = some note → l.length ≤ l'.length
  have all : ∀ (xs : List NT4), (∀ x ∈ xs, x ∈ srtK (ddK ts)) → ∀ acc : List Int, ∀ Ψ : List Int → Prop, (∀ ys : List Int, ys.length = xs.length → (∀ (i : Nat) x y, xs[i]? = some x → ys[i]? = some y → T x y) → Ψ (acc ++ ys)) →
      (comp xs acc (fun _ => W.ret true) (fun first_ => W.bind (m_law_least (srtK (ddK ts)) first_) fun t9 => W.ret t9)).run Ψ := by
    intro xs
    induction xs with
    | nil => exact fun _ acc Ψ q => by have := q [] rfl (fun i x y h => by simp at h); rw [List.append_nil] at this; exact this
    | cons x xs ih =>
      intro hm acc Ψ q
      have go : ∀ o, T x o → (comp xs (acc ++ [o]) (fun _ => W.ret true) (fun first_ => W.bind (m_law_least (srtK (ddK ts)) first_) fun t9 => W.ret t9)).run Ψ := fun o ho => by
        refine ih (fun y hy => hm y (List.mem_cons_of_mem _ hy)) _ Ψ fun ys e hT => ?_
        have := q (o :: ys) (by rw [List.length_cons, List.length_cons, e]) fun i a b ha hb => by
          cases i with
          | zero => cases ha; cases hb; exact ho
          | succ i => exact hT i a b ha hb
        rw [List.append_assoc]
        exact this
      refine ⟨fun _ => ?_, fun e => absurd e (by decide)⟩
      show (m_law_least (srtK (ddK ts)) x).run _
      refine lst40_wp len (hm x List.mem_cons_self) (fun h => go 0 (.inl ⟨rfl, fun l hl h0 => h l (no hl) h0⟩)) fun l hl hmin => go _ (.inr ⟨l, on hl, rfl, fun l' hl' h0 => hmin l' (no hl') h0⟩)
  refine ⟨Nat.le_trans len (by decide), ?_⟩
  refine all _ (fun x h => h) [] _ fun ys e hT => ?_
  rw [List.nil_append, run_bind, run_rt, run_bind]
  refine compG_wp (fun k => decide (k > 0)) (fun k => k) (Nat.le_trans (by rw [e]; exact len) (by decide)) (fun _ _ Ψ q => by exact q) (fun _ _ _ Ψ q => by exact q) ?_
  rw [List.map_id', run_rt]
  -- each of them is the length of a ring; each ring is as long at least as one of them
  have sound : ∀ k ∈ ys.filter (fun k => decide (k > 0)), ∃ l, Rng ts l ∧ k = (l.length : Int) := fun k hk => by
    obtain ⟨h1, h2⟩ := List.mem_filter.mp hk
    obtain ⟨i, hi⟩ := List.mem_iff_getElem?.mp h1
    have hx := List.getElem?_eq_getElem (l := srtK (ddK ts)) (i := i) (by have := (List.getElem?_eq_some_iff.mp hi).1; omega)
    rcases hT i _ _ hx hi with ⟨z, _⟩ | ⟨l, a, b, _⟩
    · have := of_decide_eq_true h2
      omega
    · exact ⟨l, a, b⟩
  have comp' : ∀ l, Rng ts l → ∃ k ∈ ys.filter (fun k => decide (k > 0)), k ≤ (l.length : Int) := fun l hl => by
    have hne := hl.ne
    have h0 := List.getElem?_eq_getElem hne
    obtain ⟨i, hi⟩ := List.mem_iff_getElem?.mp ((mem _).mpr (hl.mem _ (List.getElem_mem hne)))
    have hy := List.getElem?_eq_getElem (l := ys) (i := i) (by have := (List.getElem?_eq_some_iff.mp hi).1; omega)
    rcases hT i _ _ hi hy with ⟨_, z⟩ | ⟨l1, a, b, c⟩
    · exact absurd (z l hl h0) id
    · refine ⟨ys[i]'(by have := (List.getElem?_eq_some_iff.mp hi).1; omega), List.mem_filter.mpr ⟨List.mem_of_getElem? hy, ?_⟩, ?_⟩
      · have := a.ne
        rw [decide_eq_true_eq]; omega
      · have := c l hl h0
        omega
  rcases mnD_cases (ys.filter (fun k => decide (k > 0))) 0 with ⟨z, e0⟩ | ⟨hm, hmin⟩
  · rw [e0]
    refine q0 fun l hl => ?_
    obtain ⟨k, hk, _⟩ := comp' l hl
    rw [z] at hk
    cases hk
  · obtain ⟨l, hl', el⟩ := sound _ hm
    rw [el]
    refine q l hl' fun l' hl2 => ?_
    obtain ⟨k, hk, le⟩ := comp' l' hl2
    have := hmin k hk
    omega
end
end M
/-! # k40: an order or a ring -/
namespace M
open PySem L2 Z
section
variable {r : List Int × List NT4} {os l : List Int} {ts so : List NT4}
theorem part_nil {xs : List Int} {Φ : List Int → Prop} (h : xs.length ≤ 1000) (q : Φ []) : (compG xs (fun _ => W.ret false) (fun part_ => W.ret part_)).run Φ := by
  refine compG_wp (fun _ => false) (fun x => x) (small (by omega)) (fun _ _ Ψ q => by exact q) (fun _ _ _ Ψ q => by exact q) ?_
  rw [List.filter_eq_nil_iff.mpr (by simp)]
  exact q
theorem goes40_wp {Φ : Bool → Prop} (hl : so.length ≤ 1000) (h : Rng r.2 so) (q : Φ true) : (m_law_goes_round r so).run Φ := by
  have hne := h.ne
  unfold m_law_goes_round
  simp only [run_bind, run_rt, run_if, run_guard, Bool.not_true, Bool.false_eq_true, if_false]
  refine ⟨⟨okD_pl _, okD_pl _⟩, ?_⟩
  rw [eqD_dec, decide_eq_false (fun e => by rw [e] at hne; simp at hne), if_neg (by decide)]
  refine ⟨⟨by decide, by decide, by omega, by omega⟩, ?_⟩
  have gd := (goodT_iff (ts := r.2) (so := so)).mpr h
  refine forC_wp (fun _ (_ : Unit) => True) trivial (fun i x s hx _ => ?_) (fun _ _ => ?_)
  · obtain ⟨x0, x1⟩ := rng_mem.mp (List.mem_of_getElem? hx)
    obtain ⟨j, rfl⟩ : ∃ j : Nat, x = j := ⟨x.toNat, by omega⟩
    have hj : j < so.length := by omega
    have hj2 : (j + 1) % so.length < so.length := Nat.mod_lt _ hne
    have e1 := List.getElem?_eq_getElem hj
    have e2 := List.getElem?_eq_getElem hj2
    generalize so[j] = a at e1
    generalize so[(j + 1) % so.length] = b at e2
    have ld := h.go j a b e1 e2
    have e3 : atI so (((j : Int) + 1) % (so.length : Int)) = some b := by
      rw [show ((j : Int) + 1) % (so.length : Int) = (((j + 1) % so.length : Nat) : Int) by norm_cast]
      exact atI_nat e2
    unfold m_law_goes_round_L1
    simp only [run_bind, run_rt, run_if, run_guard, run_opt, Bool.not_true, Bool.false_eq_true, if_false]
    refine ⟨a, atI_nat e1, a, atI_nat e1, ⟨okD_pl _, okD_pl _⟩, ?_⟩
    rw [inD_dec, decide_eq_true (h.mem a (List.mem_of_getElem? e1)), if_neg (by decide)]
    refine ⟨a, atI_nat e1, part_nil (by simp) ?_⟩
    refine ⟨⟨okD_pl _, okD_pl _⟩, ?_⟩
    rw [eqD_self, if_neg (by decide)]
    refine ⟨a, atI_nat e1, by omega, b, e3, leads_wp fun v hv => ?_⟩
    rw [hv.mpr ld, if_neg (by decide)]
    trivial
  · exact q
theorem keeps40_wp {Φ : Bool → Prop} (hr : RcL r) (hl : os.length ≤ 1000) (io : IsOrd r.1 os) (hk : Kept r.2 os) (q : Φ true) : (m_law_keeps r os).run Φ := by
  have h8 := hr.ct.len
  unfold m_law_keeps
  simp only [run_bind, run_rt, run_if, run_guard, Bool.not_true, Bool.false_eq_true, if_false]
  rw [decide_eq_true io.2, if_neg (by decide)]
  refine ⟨⟨by decide, by decide, by omega, by omega⟩, ?_⟩
  refine compG_wp (fun _ => true) (fun h => cntZ os h) (small (by rw [rng_len]; omega)) (fun _ _ Ψ q => by exact q) (fun _ _ _ Ψ q => by exact q) ?_
  rw [List.filter_eq_self.mpr (fun _ _ => rfl)]
  have e : (rng 0 (r.1.length : Int)).map (fun h => cntZ os h) = r.1 := by
    refine lAt_ext (by rw [List.length_map, rng_len]; omega) fun x x0 x1 => ?_
    rw [List.length_map, rng_len] at x1
    rw [lAt_map x0 (by omega)]
    exact io.1 x x0 (by omega)
  rw [e]
  refine ⟨⟨okD_pl _, okD_pl _⟩, ?_⟩
  rw [eqD_self, if_neg (by decide)]
  refine spots_wp2 hl fun m hm => ?_
  refine compG_wp (fun t => decide ((valM m (t.a, t.b)).getD 0 > (valM m (t.c, t.d)).getD 0)) (fun t => t) (Nat.le_trans hr.len (by decide)) (fun t ht Ψ q => ?_) (fun _ _ _ Ψ q => by exact q) ?_
  · obtain ⟨p, q', e1, e2, _⟩ := kept_one hm (hr.nt t ht) io
    simp only [run_bind, run_opt, run_rt]
    refine ⟨_, e1, _, e2, ?_⟩
    rw [e1, e2] at q
    exact q
  · rw [List.map_id']
    refine ⟨⟨okD_pl _, okD_pl _⟩, ?_⟩
    rw [List.filter_eq_nil_iff.mpr fun t ht => ?_, eqD_self]
    · exact q
    · obtain ⟨p, q', f1, f2, f3⟩ := kept_one hm (hr.nt t ht) io
      have := f3.mpr fun j x hj e1 e2 => hk j x hj t ht e1 e2
      rw [f1, f2, decide_eq_true_eq, Option.getD_some, Option.getD_some]
      omega
/-- without its first note it is none -/
theorem tail_no {c : List NT4} (h : Rng ts c) (hm : ∀ l, Rng ts l → c.length ≤ l.length) : ¬ Rng ts (c.drop 1) := fun h' => by
  have h1 := hm _ h'
  have h2 := h.ne
  rw [List.length_drop] at h1
  omega
end
theorem law_true {ns : List Int} (hl : ns.length ≤ 63) : (m_law ns).run (fun r => r = true) := by
  unfold m_law
  simp only [run_bind, run_bind2, run_rt]
  refine bag_wp fun s0 hs0 => ?_
  refine draw_wp hs0 (by decide) (by decide) (by decide) fun g s1 a1 a2 hs1 => ?_
  refine draw_wp hs1 (by decide) (by decide) (by decide) fun planted s2 p1 p2 hs2 => ?_
  dsimp only
  refine record_wp hs2 (by decide) (by split <;> simp) fun r s3 hr hs3 => ?_
  dsimp only
  have main : ∀ (s : Bag) (r : List Int × List NT4), RcL r → r.2.length ≤ 60 → (m_law_R1 s r.1 r.2).run fun r => r = true := by
    intro s r hr h60
    unfold m_law_R1 m_law_copy
    simp only [run_bind, run_rt]
    have e2 : ((r.1, r.2) : List Int × List NT4) = r := rfl
    rw [e2]
    -- what ring tells
    have ring1 : ∀ Φ : Option (List NT4) → Prop, (∀ o : Option (List NT4), (m_ring r).run (fun b => b = o) → (match o with | none => ∀ l, Rng r.2 l → 8 < l.length | some c => Rng r.2 c ∧ c.length ≤ 8 ∧ ∀ l, Rng r.2 l → c.length ≤ l.length) → Φ o) → (m_ring r).run Φ := by
      intro Φ q
      obtain ⟨o, ho, hd⟩ := det_ring (r := r) (fun o => match o with | none => ∀ l, Rng r.2 l → 8 < l.length | some c => Rng r.2 c ∧ c.length ≤ 8 ∧ ∀ l, Rng r.2 l → c.length ≤ l.length) (ring_wp hr (fun h => h) fun c a b d => ⟨a, b, d⟩)
      exact run_mono hd fun b hb => by rw [hb]; exact q o hd ho
    -- an order is told, and there is no ring; or none is, and there is one of eight notes at most
    have ford : ∀ Φ : Option (List Int) → Prop, (∀ o : Option (List Int), (match o with | none => ∃ l, Rng r.2 l ∧ l.length ≤ 8 | some os => os.length ≤ 300 ∧ IsOrd r.1 os ∧ Kept r.2 os ∧ ∀ l, ¬ Rng r.2 l) → Φ o) → (m_first_order r).run Φ := by
      intro Φ q
      refine first_wp hr (fun P hP => q none (stuck_ring hr hP)) fun os h3 hg hn hlen => q (some os) ?_
      have io := greedy_ord hn hlen
      have hk := greedy_kept hr hg
      exact ⟨h3, io, hk, fun l hl' => no_ring hr (fun h h0 h1 => io.1 h h0 h1) hk hl'⟩
    refine ford _ fun o ho => ?_
    refine ring1 _ fun f hf hfo => ?_
    simp only [run_guard, run_if]
    refine ⟨⟨okD_pl _, okD_pl _⟩, ?_⟩
    rw [eqD_self, if_neg (by decide)]
    refine ⟨nn, ?_⟩
    cases f with
    | none =>
      rw [if_pos (by rfl)]
      refine ⟨nn, ?_⟩
      cases o with
      | none =>
        obtain ⟨l, a, b⟩ := ho
        have := hfo l a
        omega
      | some os =>
        obtain ⟨h3, io, hk, no⟩ := ho
        simp only [run_bind, run_if, run_opt, run_rt, Option.isSome_some, if_true]
        refine ⟨os, rfl, ?_⟩
        refine keeps40_wp hr (by omega) io hk ?_
        simp only [if_true]
        refine few40_wp (by omega) (fun _ => ?_) fun l hl' _ => absurd hl' (no l)
        decide
    | some c =>
      obtain ⟨hc, h8, hmin⟩ := hfo
      rw [if_neg (by simp)]
      refine ⟨nn, ?_⟩
      cases o with
      | some os => exact absurd hc (ho.2.2.2 c)
      | none =>
        simp only [run_bind, run_opt, run_rt, run_if, Option.some.injEq, exists_eq_left', Option.isSome_none, Bool.false_eq_true, if_false]
        refine goes40_wp (by omega) hc ?_
        simp only [Bool.not_true, Bool.false_eq_true, if_false, run_bind, run_opt, run_rt, Option.some.injEq, exists_eq_left']
        refine few40_wp (by omega) (fun no => absurd hc (no c)) fun l hl' hm => ?_
        have el : c.length = l.length := Nat.le_antisymm (hmin l hl') (hm c hc)
        rw [el, decide_eq_true rfl, if_neg (by decide)]
        refine shows_b hr.g (by omega) fun b hb => ?_
        rw [hb.mpr hc, decide_eq_true rfl, if_neg (by decide), cut_from (by decide)]
        refine shows_b hr.g (by rw [List.length_drop]; omega) fun b2 hb2 => ?_
        have : b2 = false := by
          cases b2 with
          | false => rfl
          | true => exact absurd (hb2.mp rfl) (tail_no hc hmin)
        rw [this, decide_eq_true rfl, if_neg (by decide)]
        refine run_mono hf fun o ho => ?_
        rw [ho, run_guard, run_rt]
        refine ⟨⟨okD_pl _, okD_pl _⟩, ?_⟩
        exact eqD_self (some c)
  rw [run_if]
  by_cases c : planted = 1
  · rw [if_pos (decide_eq_true c)]
    simp only [run_bind, run_rt]
    refine ring_in_wp hs3 (by decide) hr fun loop s4 r' h1 h2 h3 h4 h5 => ?_
    dsimp only
    exact main s4 r' ⟨h2.ct, h2.nt, by have := h2.len; omega⟩ h2.len
  · rw [if_neg (by simp [c]), run_rt]
    exact main s3 r ⟨hr.ct, hr.nt, by have := hr.len; omega⟩ (by have := hr.len; omega)
end M
namespace M
open PySem L2 Z
section
def topS (i : Nat) : Stmt := PySem.Challenge.pw_fewnotes_k40_whole_order_or_ring.main.body.getD i (.Pass ⟨0, 0, 0, 0⟩)
variable {P : Program} {w : World} {K : PySem.W.Frag} {mg : Str → Option Value} {base : Heap} {cl : Nat → Addr}
def sp_is_touch (K : PySem.W.Frag) (cl : Nat → Addr) : Sp := fun vs H Q E => ∃ (amb : Grp) (Ho : Hp) (v0 : V) (x0 : (List Int)) (v1 : V) (x1 : Int) (v2 : V) (x2 : Int), vs = [v0, v1, v2] ∧ Zs amb H Ho ∧ LV K amb Ho v0 x0 ∧ Z.D K Ho v1 x1 ∧ Z.D K Ho v2 x2 ∧ (m_is_touch x0 x1 x2).run fun r => ∀ v H' Ho', Same Ho Ho' → Zs amb H' Ho' → Z.D K Ho' v r → Q v H'
abbrev s_is_touch : Stmt := topS 5
theorem sc_is_touch : FnScope ["counts", "hand", "k"] ["counts", "hand", "k"] (defScope s_is_touch) := ⟨rfl, rfl, rfl, by decide +kernel, rfl, by decide +kernel, by decide +kernel⟩
theorem ok_is_touch {f : Addr} {fd : FuncData} (F : Fun K "is_touch" "is_touch" s_is_touch f fd) (m_len : mg "len" = none) :
    FnOk P w K mg base CX0 1 f fd ["counts", "hand", "k"] (sp_is_touch K cl) := by
  refine F.ok sc_is_touch (fun vs H Q E h => ?_) (fun cdv A outer s H vs Q E hr h => ?_)
  · obtain ⟨amb, Ho, v_counts_, counts_, v_hand_, hand_, v_k_, k_, rfl, _⟩ := h
    rfl
  · obtain ⟨amb, Ho, v_counts_, counts_, v_hand_, hand_, v_k_, k_, rfl, z, d_counts_, d_hand_, d_k_, hw⟩ := h
    refine ⟨_, pss_cons (ps_ret (pe_and (pe_cmpR (op_le) (pe_int) (pv 1) (nomark _)) (pe_and (pe_cmpR (op_lt) (pv 1) (pe_callB (zlen (K := K) rfl) (by rfl) m_len (by decide +kernel) (pa_cons (pv 0) (pa_nil))) (nomark _)) (pe_and (pe_cmpR (op_le) (pe_int) (pv 2) (nomark _)) (pe_one (pe_cmpR (op_lt) (pv 2) (pe_ix (zix_list (K := K) rfl) (pv 0) (pv 1) (fun _ _ => rfl)) (nomark _))))))) (pss_nil), ?_⟩
    obtain rfl := d_int d_hand_
    obtain rfl := d_int d_k_
    refine y_ret ?_
    refine y_andV ?_
    refine y_op ?_
    refine y_c ?_
    refine y_var rfl ?_
    refine y_i0 ?_
    refine ⟨_, rfl, ?_⟩
    refine w_andVJ hw (fun (s : Bool) (v : V) (H2 : Hp) => ∃ (Ho2 : Hp), Same Ho Ho2 ∧ Zs amb H2 Ho2 ∧ v = V.bl s) (fun hb hw => ?_) (fun hb hw => ?_) ?_
    · refine y_andV ?_
      refine y_op ?_
      refine y_var rfl ?_
      refine y_cb ?_
      refine y_cons ?_
      refine y_var rfl ?_
      refine y_nil ?_
      refine y_len (LV.sub d_counts_ mgE) z ?_
      refine y_i0 ?_
      refine ⟨_, rfl, ?_⟩
      refine w_andVJ hw (fun (s : Bool) (v : V) (H2 : Hp) => ∃ (Ho2 : Hp), Same Ho Ho2 ∧ Zs amb H2 Ho2 ∧ v = V.bl s) (fun hb hw => ?_) (fun hb hw => ?_) ?_
      · refine y_andV ?_
        refine y_op ?_
        refine y_c ?_
        refine y_var rfl ?_
        refine y_i0 ?_
        refine ⟨_, rfl, ?_⟩
        refine w_andVJ hw (fun (s : Bool) (v : V) (H2 : Hp) => ∃ (Ho2 : Hp), Same Ho Ho2 ∧ Zs amb H2 Ho2 ∧ v = V.bl s) (fun hb hw => ?_) (fun hb hw => ?_) ?_
        · refine y_op ?_
          refine y_var rfl ?_
          refine y_op ?_
          refine y_var rfl ?_
          refine y_var rfl ?_
          refine y_ixL (LV.sub d_counts_ mgE) z hw (fun t1 w d2 hw => ?_)
          first | obtain rfl := d_int d2 | cases d_int d2
          refine y_i0 ?_
          exact (run_ret hw) _ _ ⟨_, (Same.refl _), z, rfl⟩
        · exact (run_ret hw) _ _ ⟨_, (Same.refl _), z, rfl⟩
        rintro t3 v H ⟨Ho, e, z, rfl⟩ hw
        replace d_counts_ := LV.mo d_counts_ e
        have es6 := (Same.refl _).trans e
        exact (run_ret hw) _ _ ⟨_, es6, z, rfl⟩
      · exact (run_ret hw) _ _ ⟨_, (Same.refl _), z, rfl⟩
      rintro t7 v H ⟨Ho, e, z, rfl⟩ hw
      replace d_counts_ := LV.mo d_counts_ e
      have es10 := (Same.refl _).trans e
      exact (run_ret hw) _ _ ⟨_, es10, z, rfl⟩
    · exact (run_ret hw) _ _ ⟨_, (Same.refl _), z, rfl⟩
    rintro t11 v H ⟨Ho, e, z, rfl⟩ hw
    replace d_counts_ := LV.mo d_counts_ e
    have es14 := (Same.refl _).trans e
    exact (run_ret hw) _ _ _ es14 z (Dq.bl _)
def sp_need_record (K : PySem.W.Frag) (cl : Nat → Addr) : Sp := fun vs H Q E => ∃ (amb : Grp) (Ho : Hp) (v0 : V) (x0 : ((List Int) × (List (P4 Int Int Int Int)))), vs = [v0] ∧ Zs amb H Ho ∧ LP K amb Ho v0 x0 ∧ (m_need_record x0).run fun r => ∀ v H' Ho', Same Ho Ho' → Zs amb H' Ho' → Z.D K Ho' v r → Q v H'
abbrev s_need_record : Stmt := topS 6
theorem sc_need_record : FnScope ["record", "counts", "some", "hand", "k", "other", "m"] ["record"] (defScope s_need_record) := ⟨rfl, rfl, rfl, by decide +kernel, rfl, by decide +kernel, by decide +kernel⟩
theorem ok_need_record {f : Addr} {fd : FuncData} (F : Fun K "need_record" "need_record" s_need_record f fd) {f_is_touch : Addr} {fd_is_touch : FuncData} (c_is_touch : Cal P w K mg base CX0 "is_touch" ["counts", "hand", "k"] 1 (sp_is_touch K cl) f_is_touch fd_is_touch) :
    FnOk P w K mg base CX0 2 f fd ["record"] (sp_need_record K cl) := by
  refine F.ok sc_need_record (fun vs H Q E h => ?_) (fun cdv A outer s H vs Q E hr h => ?_)
  · obtain ⟨amb, Ho, v_record_, record_, rfl, _⟩ := h
    rfl
  · obtain ⟨amb, Ho, v_record_, record_, rfl, z, d_record_, hw⟩ := h
    refine ⟨_, pss_cons (ps_asg (pv 0) (zpg_tup (K := K) (n := 2) rfl rfl (pgs_cons (pg_name (i := 1) sc_need_record.nd rfl (Or.inl rfl)) (pgs_cons (pg_name (i := 2) sc_need_record.nd rfl (Or.inl rfl)) (pgs_nil))))) (pss_cons (ps_for PassesOwn.never rfl (zpi_list (K := K) rfl (pv 2)) (zpg_tup (K := K) (n := 4) rfl rfl (pgs_cons (pg_name (i := 3) sc_need_record.nd rfl (Or.inl rfl)) (pgs_cons (pg_name (i := 4) sc_need_record.nd rfl (Or.inl rfl)) (pgs_cons (pg_name (i := 5) sc_need_record.nd rfl (Or.inl rfl)) (pgs_cons (pg_name (i := 6) sc_need_record.nd rfl (Or.inl rfl)) (pgs_nil)))))) (pss_cons (ps_if (PW.pt (pw_or (pt_cmpR (op_eq) (pv 3) (pv 5) (nomark _)) (pw_or (pt_not (pt_val (pe_call c_is_touch.ok (hr.mono (by decide)) (by rfl) c_is_touch.g c_is_touch.kp c_is_touch.b .nil pass0 (pa_cons (pv 1) (pa_cons (pv 3) (pa_cons (pv 4) (pa_nil))))))) (pw_or1 (pt_not (pt_val (pe_call c_is_touch.ok (hr.mono (by decide)) (by rfl) c_is_touch.g c_is_touch.kp c_is_touch.b .nil pass0 (pa_cons (pv 1) (pa_cons (pv 5) (pa_cons (pv 6) (pa_nil))))))))))) (pss_cons (ps_never) (pss_nil)) (pss_nil)) (pss_nil))) (pss_nil)), ?_⟩
    obtain ⟨v_record__0_, v_record__1_, t_record_, d_record__0_, d_record__1_⟩ := d_record_
    refine h_nmG (P := fun x => LV K amb Ho v_record__0_ x) hw d_record__0_ (fun record__0_ d_record__0_ hw => ?_)
    refine h_nmG (P := fun x => LV K amb Ho v_record__1_ x) hw d_record__1_ (fun record__1_ d_record__1_ hw => ?_)
    refine y_asgG ?_
    refine y_var rfl ?_
    refine p_gt2 (fun v u => [_, some v, some u, _, _, _, _]) (fun _ _ => rfl) t_record_ z ?_
    refine h_nmG (P := fun x => LV K amb Ho v_record__0_ x) hw d_record__0_ (fun counts_ d_counts_ hw => ?_)
    refine h_nmG (P := fun x => LV K amb Ho v_record__1_ x) hw d_record__1_ (fun some_ d_some_ hw => ?_)
    refine y_for ?_
    refine k_iList ?_
    refine y_var rfl ?_
    refine k_srcL (r0 := amb) (LV.sub d_some_ mgE) mgE z (fun J T => ?_)
    refine y_forL T hw (fun (s : Unit) (σ : L2.St) (H Ho : Hp) => ∃ (y_hand_ : Option V) (y_k_ : Option V) (y_other_ : Option V) (y_m_ : Option V), σ = [some v_record_, some v_record__0_, some v_record__1_, y_hand_, y_k_, y_other_, y_m_] ∧ Zs amb H Ho) ⟨_, _, _, _, rfl, z⟩ ?_ ?_ ?_ ?_
    · intro s σ H Ho hI
      obtain ⟨y_hand_, y_k_, y_other_, y_m_, rfl, z⟩ := hI
      exact ⟨_, z, mgE⟩
    · intro s σ H Ho H2 Ho2 hI e t
      obtain ⟨y_hand_, y_k_, y_other_, y_m_, rfl, z⟩ := hI
      exact ⟨_, _, _, _, rfl, t _ z⟩
    · intro a x s σ H Ho N e hI dx hw
      obtain ⟨y_hand_, y_k_, y_other_, y_m_, rfl, z⟩ := hI
      replace d_counts_ := LV.mo d_counts_ e
      replace t_record_ := TupAt.mo t_record_ e
      replace d_record__0_ := LV.mo d_record__0_ e
      replace d_record__1_ := LV.mo d_record__1_ e
      have es1 := (Same.refl _).trans e
      obtain ⟨hand_, k_, other_, m_⟩ := a
      refine c_gt4 (fun v_hand_ v_k_ v_other_ v_m_ => [some v_record_, some v_record__0_, some v_record__1_, some v_hand_, some v_k_, some v_other_, some v_m_]) (fun _ _ _ _ => rfl) dx z (fun v_hand_ v_k_ v_other_ v_m_ d_hand_ d_k_ d_other_ d_m_ => ?_)
      obtain rfl := d_int d_hand_
      obtain rfl := d_int d_k_
      obtain rfl := d_int d_other_
      obtain rfl := d_int d_m_
      refine y_ifS ?_
      refine y_or ?_
      refine y_test ?_
      refine y_op ?_
      refine y_var rfl ?_
      refine y_var rfl ?_
      refine y_eqi ?_
      refine ⟨_, rfl, ?_⟩
      refine w_orJ hw (fun (s : Bool) (v : Bool) (H2 : Hp) => ∃ (Ho2 : Hp), Same Ho Ho2 ∧ Zs amb H2 Ho2 ∧ v = s) (fun hb hw => ?_) (fun hb hw => ?_) ?_
      · exact (run_ret hw) _ _ ⟨_, (Same.refl _), z, rfl⟩
      · refine y_or ?_
        refine y_not ?_
        refine y_tB ?_
        refine y_call ?_
        refine y_cons ?_
        refine y_var rfl ?_
        refine y_cons ?_
        refine y_var rfl ?_
        refine y_cons ?_
        refine y_var rfl ?_
        refine y_nil ?_
        refine ⟨amb, _, _, _, _, _, _, _, rfl, z, (LV.sub d_counts_ mgE), (Dq.int _), (Dq.int _), ?_⟩
        refine run_mono3 hw (fun t2 hw v H Ho e z d3 => ?_)
        replace d_counts_ := LV.mo d_counts_ e
        replace t_record_ := TupAt.mo t_record_ e
        replace d_record__0_ := LV.mo d_record__0_ e
        replace d_record__1_ := LV.mo d_record__1_ e
        have es5 := (Same.refl _).trans e
        first | obtain rfl := d_bool d3 | cases d_bool d3
        refine ⟨_, rfl, ?_⟩
        refine w_orJ hw (fun (s : Bool) (v : Bool) (H2 : Hp) => ∃ (Ho2 : Hp), Same Ho Ho2 ∧ Zs amb H2 Ho2 ∧ v = s) (fun hb hw => ?_) (fun hb hw => ?_) ?_
        · exact (run_ret hw) _ _ ⟨_, (Same.refl _), z, rfl⟩
        · refine y_not ?_
          refine y_tB ?_
          refine y_call ?_
          refine y_cons ?_
          refine y_var rfl ?_
          refine y_cons ?_
          refine y_var rfl ?_
          refine y_cons ?_
          refine y_var rfl ?_
          refine y_nil ?_
          refine ⟨amb, _, _, _, _, _, _, _, rfl, z, (LV.sub d_counts_ mgE), (Dq.int _), (Dq.int _), ?_⟩
          refine run_mono3 hw (fun t6 hw v H Ho e z d7 => ?_)
          replace d_counts_ := LV.mo d_counts_ e
          replace t_record_ := TupAt.mo t_record_ e
          replace d_record__0_ := LV.mo d_record__0_ e
          replace d_record__1_ := LV.mo d_record__1_ e
          have es9 := (Same.refl _).trans e
          first | obtain rfl := d_bool d7 | cases d_bool d7
          refine ⟨_, rfl, ?_⟩
          exact (run_ret hw) _ _ ⟨_, es9, z, rfl⟩
        rintro t10 v H ⟨Ho, e, z, rfl⟩ hw
        replace d_counts_ := LV.mo d_counts_ e
        replace t_record_ := TupAt.mo t_record_ e
        replace d_record__0_ := LV.mo d_record__0_ e
        replace d_record__1_ := LV.mo d_record__1_ e
        have es13 := es5.trans e
        exact (run_ret hw) _ _ ⟨_, es13, z, rfl⟩
      rintro t14 v H ⟨Ho, e, z, rfl⟩ hw
      replace d_counts_ := LV.mo d_counts_ e
      replace t_record_ := TupAt.mo t_record_ e
      replace d_record__0_ := LV.mo d_record__0_ e
      replace d_record__1_ := LV.mo d_record__1_ e
      have es17 := (Same.refl _).trans e
      refine y_cases hw (fun hb hw => ?_) (fun hb hw => ?_)
      · exact hw.elim
      · refine y_nxS ?_
        exact (run_ret hw) _ _ _ es17 ⟨_, _, _, _, rfl, z⟩
    intro s σ H Ho e hI hw
    obtain ⟨y_hand_, y_k_, y_other_, y_m_, rfl, z⟩ := hI
    replace t_record_ := TupAt.mo t_record_ e
    replace d_record__0_ := LV.mo d_record__0_ e
    replace d_record__1_ := LV.mo d_record__1_ e
    have es18 := (Same.refl _).trans e
    exact (run_ret hw) _ _ _ es18 z Dq.non
def sp_firsts_of (K : PySem.W.Frag) (cl : Nat → Addr) : Sp := fun vs H Q E => ∃ (amb : Grp) (Ho : Hp) (v0 : V) (x0 : ((List Int) × (List (P4 Int Int Int Int)))), vs = [v0] ∧ Zs amb H Ho ∧ LP K amb Ho v0 x0 ∧ (m_firsts_of x0).run fun r => ∀ v g H' Ho', Same Ho Ho' → Zs (g ++ amb) H' Ho' → OD K Ho' v r g → Q v H'
abbrev s_firsts_of : Stmt := topS 7
theorem sc_firsts_of : FnScope ["record", "found", "hand", "k", "other", "m"] ["record"] (defScope s_firsts_of) := ⟨rfl, rfl, rfl, by decide +kernel, rfl, by decide +kernel, by decide +kernel⟩
theorem ok_firsts_of {f : Addr} {fd : FuncData} (F : Fun K "firsts_of" "firsts_of" s_firsts_of f fd) :
    FnOk P w K mg base CX0 1 f fd ["record"] (sp_firsts_of K cl) := by
  refine F.ok sc_firsts_of (fun vs H Q E h => ?_) (fun cdv A outer s H vs Q E hr h => ?_)
  · obtain ⟨amb, Ho, v_record_, record_, rfl, _⟩ := h
    rfl
  · obtain ⟨amb, Ho, v_record_, record_, rfl, z, d_record_, hw⟩ := h
    refine ⟨_, pss_cons (ps_set (i := 1) sc_firsts_of.nd rfl (Or.inl rfl) (pe_dnewT)) (pss_cons (ps_for PassesOwn.never rfl (zpi_list (K := K) rfl (pe_ix (zix_tup (K := K) rfl) (pv 0) (pe_int) (fun _ _ => rfl))) (zpg_tup (K := K) (n := 4) rfl rfl (pgs_cons (pg_name (i := 2) sc_firsts_of.nd rfl (Or.inl rfl)) (pgs_cons (pg_name (i := 3) sc_firsts_of.nd rfl (Or.inl rfl)) (pgs_cons (pg_name (i := 4) sc_firsts_of.nd rfl (Or.inl rfl)) (pgs_cons (pg_name (i := 5) sc_firsts_of.nd rfl (Or.inl rfl)) (pgs_nil)))))) (pss_cons (ps_expr (pe_bm PySem.F.plainAttrs_list PySem.F.slot_list_append PySem.F.type_list_append mt_append (pe_dsetd (room1 hr) (pv 1) (pe_tup (pa_cons (pv 4) (pa_cons (pv 5) (pa_nil)))) (pe_lst (pa_nil)) ⟨by rfl, by rfl, by rfl, by rfl⟩) (pa_cons (pe_tup (pa_cons (pv 2) (pa_cons (pv 3) (pa_nil)))) (pa_nil)))) (pss_nil))) (pss_cons (ps_ret (pv 1)) (pss_nil))), ?_⟩
    obtain ⟨v_record__0_, v_record__1_, t_record_, d_record__0_, d_record__1_⟩ := d_record_
    refine h_nmG (P := fun x => LV K amb Ho v_record__0_ x) hw d_record__0_ (fun record__0_ d_record__0_ hw => ?_)
    refine h_nmG (P := fun x => LV K amb Ho v_record__1_ x) hw d_record__1_ (fun record__1_ d_record__1_ hw => ?_)
    refine l_asg (fun v => [_, some v, _, _, _, _]) (fun _ => rfl) ?_
    refine g_dnewTo (K := K) (α := (Int × Int)) z (fun H v1 g2 z o3 => ?_)
    refine t_o hw z o3 (fun found_ v_found_ g_found_ z d_found_ hw => ?_)
    refine y_for ?_
    refine k_iList ?_
    refine y_op ?_
    refine y_var rfl ?_
    refine y_c ?_
    refine p_ix1 t_record_ z ?_
    refine k_srcL (r0 := amb) (LV.sub d_record__1_ mgE) (mgS mgE) z (fun J T => ?_)
    refine y_forL T hw (fun (s : (Dc (Int × Int) (List (Int × Int)))) (σ : L2.St) (H Ho : Hp) => ∃ (g_found_ : Grp) (y_hand_ : Option V) (y_k_ : Option V) (y_other_ : Option V) (y_m_ : Option V), σ = [some v_record_, some v_found_, y_hand_, y_k_, y_other_, y_m_] ∧ Zs (g_found_ ++ amb) H Ho ∧ OT K Ho v_found_ s g_found_) ⟨_, _, _, _, _, rfl, z, d_found_⟩ ?_ ?_ ?_ ?_
    · intro s σ H Ho hI
      obtain ⟨g_found_, y_hand_, y_k_, y_other_, y_m_, rfl, z, d_found_⟩ := hI
      exact ⟨_, z, (mgS mgE)⟩
    · intro s σ H Ho H2 Ho2 hI e t
      obtain ⟨g_found_, y_hand_, y_k_, y_other_, y_m_, rfl, z, d_found_⟩ := hI
      exact ⟨_, _, _, _, _, rfl, t _ z, OT.mo d_found_ e⟩
    · intro a x s σ H Ho N e hI dx hw
      obtain ⟨found_, rfl⟩ : ∃ q, q = s := ⟨_, rfl⟩
      obtain ⟨g_found_, y_hand_, y_k_, y_other_, y_m_, rfl, z, d_found_⟩ := hI
      replace t_record_ := TupAt.mo t_record_ e
      replace d_record__0_ := LV.mo d_record__0_ e
      replace d_record__1_ := LV.mo d_record__1_ e
      have es4 := (Same.refl _).trans e
      obtain ⟨hand_, k_, other_, m_⟩ := a
      refine c_gt4 (fun v_hand_ v_k_ v_other_ v_m_ => [some v_record_, some v_found_, some v_hand_, some v_k_, some v_other_, some v_m_]) (fun _ _ _ _ => rfl) dx z (fun v_hand_ v_k_ v_other_ v_m_ d_hand_ d_k_ d_other_ d_m_ => ?_)
      obtain rfl := d_int d_hand_
      obtain rfl := d_int d_k_
      obtain rfl := d_int d_other_
      obtain rfl := d_int d_m_
      refine y_drop ?_
      refine y_bm ?_
      refine y_dsetd (y_var rfl ?_)
      refine g_isdT z d_found_ (fun a5 ea5 => ?_)
      refine k_tup ?_
      refine y_cons ?_
      refine y_var rfl ?_
      refine y_cons ?_
      refine y_var rfl ?_
      refine y_nil ?_
      refine k_tupk (K := K) (x := (other_, m_)) z (by show 2 ≤ sizeLine; decide) _ rfl (DqAll.cons (Dq.int _) (DqAll.cons (Dq.int _) DqAll.nil)) (fun p H Ho e z d6 => ?_)
      replace d_found_ := OT.mo d_found_ e
      replace t_record_ := TupAt.mo t_record_ e
      replace d_record__0_ := LV.mo d_record__0_ e
      replace d_record__1_ := LV.mo d_record__1_ e
      have es7 := (Same.refl _).trans e
      refine k_lst ?_
      refine y_nil ?_
      refine k_lstk (K := K) (xs := ([] : (List (Int × Int)))) z DqAll.nil (by show 0 ≤ sizeLine; decide) (fun H p8 ws9 z d10 => ?_)
      replace z : Zs ([(p8, HO.lst ws9)] ++ (g_found_ ++ amb)) H Ho := z
      have o11 := OL.mk (p := p8) d10
      cases d10
      refine g_setd ea5 z d_found_ d6 (sd_h1 hw) (fun u12 g13 H z o14 => ?_)
      refine g_tyAt z o14 ?_
      refine y_cons ?_
      refine k_tup ?_
      refine y_cons ?_
      refine y_var rfl ?_
      refine y_cons ?_
      refine y_var rfl ?_
      refine y_nil ?_
      refine k_tupk (K := K) (x := (hand_, k_)) z (by show 2 ≤ sizeLine; decide) _ rfl (DqAll.cons (Dq.int _) (DqAll.cons (Dq.int _) DqAll.nil)) (fun p H Ho e z d15 => ?_)
      replace o14 := OTat.mo o14 e
      replace t_record_ := TupAt.mo t_record_ e
      replace d_record__0_ := LV.mo d_record__0_ e
      replace d_record__1_ := LV.mo d_record__1_ e
      have es16 := es7.trans e
      refine y_nil ?_
      refine g_appAt z o14 d15 (sd_h2 hw) (fun found_ g_found_ H hm z d_found_ => ?_)
      obtain ⟨found_, d_found_, hw⟩ := sd_run hw hm d_found_
      exact (run_ret hw) _ _ _ es16 ⟨_, _, _, _, _, rfl, z, d_found_⟩
    intro s σ H Ho e hI hw
    obtain ⟨found_, rfl⟩ : ∃ q, q = s := ⟨_, rfl⟩
    obtain ⟨g_found_, y_hand_, y_k_, y_other_, y_m_, rfl, z, d_found_⟩ := hI
    replace t_record_ := TupAt.mo t_record_ e
    replace d_record__0_ := LV.mo d_record__0_ e
    replace d_record__1_ := LV.mo d_record__1_ e
    have es17 := (Same.refl _).trans e
    refine y_ret ?_
    refine y_var rfl ?_
    refine t_fr d_found_ z (fun Ho g18 e z d_found_ => ?_)
    replace t_record_ := TupAt.mo t_record_ e
    replace d_record__0_ := LV.mo d_record__0_ e
    replace d_record__1_ := LV.mo d_record__1_ e
    have es19 := es17.trans e
    exact (run_ret hw) _ _ _ _ es19 z d_found_
def sp_waits_for (K : PySem.W.Frag) (cl : Nat → Addr) : Sp := fun vs H Q E => ∃ (amb : Grp) (Ho : Hp) (v0 : V) (x0 : (Dc (Int × Int) (List (Int × Int)))) (v1 : V) (x1 : (List Int)) (v2 : V) (x2 : Int), vs = [v0, v1, v2] ∧ Zs amb H Ho ∧ BD K amb Ho v0 x0 ∧ LV K amb Ho v1 x1 ∧ Z.D K Ho v2 x2 ∧ (m_waits_for x0 x1 x2).run fun r => ∀ v H' Ho', Same Ho Ho' → Zs amb H' Ho' → Z.D K Ho' v r → Q v H'
abbrev s_waits_for : Stmt := topS 8
theorem sc_waits_for : FnScope ["firsts", "now", "hand", "there", "other", "k"] ["firsts", "now", "hand"] (defScope s_waits_for) := ⟨rfl, rfl, rfl, by decide +kernel, rfl, by decide +kernel, by decide +kernel⟩
theorem ok_waits_for {f : Addr} {fd : FuncData} (F : Fun K "waits_for" "waits_for" s_waits_for f fd) :
    FnOk P w K mg base CX0 1 f fd ["firsts", "now", "hand"] (sp_waits_for K cl) := by
  refine F.ok sc_waits_for (fun vs H Q E h => ?_) (fun cdv A outer s H vs Q E hr h => ?_)
  · obtain ⟨amb, Ho, v_firsts_, firsts_, v_now_, now_, v_hand_, hand_, rfl, _⟩ := h
    rfl
  · obtain ⟨amb, Ho, v_firsts_, firsts_, v_now_, now_, v_hand_, hand_, rfl, z, d_firsts_, d_now_, d_hand_, hw⟩ := h
    refine ⟨_, pss_cons (ps_set (i := 3) sc_waits_for.nd rfl (Or.inl rfl) (pe_dget2 (room1 hr) (pv 0) (pe_tup (pa_cons (pv 2) (pa_cons (pe_ix (zix_list (K := K) rfl) (pv 1) (pv 2) (fun _ _ => rfl)) (pa_nil)))) (pe_lst (pa_nil)) ⟨by rfl, by rfl, by rfl, by rfl⟩)) (pss_cons (ps_ret (pe_lc (own := [("other", 4), ("k", 5)]) rfl sc_waits_for.nd (zpi_list (K := K) rfl (pv 3)) (blkOk_by (N := ["firsts", "now", "hand", "there", "other", "k"]) (sc := defScope s_waits_for) (by decide +kernel)) (fun _ _ _ _ _ => zpg_tup (K := K) (n := 2) rfl rfl (pgs_cons (pg_name (i := 4) sc_waits_for.nd rfl (Or.inl rfl)) (pgs_cons (pg_name (i := 5) sc_waits_for.nd rfl (Or.inl rfl)) (pgs_nil)))) (fun _ _ _ _ _ => pts_one (pt_cmpR (op_ge) (pv 5) (pe_ix (zix_list (K := K) rfl) (pv 1) (pv 4) (fun _ _ => rfl)) (nomark _))) (fun _ _ _ _ _ => pe_tup (pa_cons (pv 4) (pa_cons (pv 5) (pa_nil)))))) (pss_nil)), ?_⟩
    obtain rfl := d_int d_hand_
    refine l_asg (fun v => [_, _, _, some v, _, _]) (fun _ => rfl) ?_
    refine y_dget2 ?_
    refine y_var rfl ?_
    refine g_isd (BD.sub d_firsts_ mgE) z (fun a1 ea1 => ?_)
    refine k_tup ?_
    refine y_cons ?_
    refine y_var rfl ?_
    refine y_cons ?_
    refine y_op ?_
    refine y_var rfl ?_
    refine y_var rfl ?_
    refine y_ixL (LV.sub d_now_ mgE) z hw (fun t2 w d3 hw => ?_)
    first | obtain rfl := d_int d3 | cases d_int d3
    refine y_nil ?_
    refine k_tupk (K := K) (x := (hand_, t2)) z (by show 2 ≤ sizeLine; decide) _ rfl (DqAll.cons (Dq.int _) (DqAll.cons (Dq.int _) DqAll.nil)) (fun p H Ho e z d4 => ?_)
    replace d_firsts_ := BD.mo d_firsts_ e
    replace d_now_ := LV.mo d_now_ e
    have es5 := (Same.refl _).trans e
    refine k_lst ?_
    refine y_nil ?_
    refine k_lstk (K := K) (xs := ([] : (List (Int × Int)))) z DqAll.nil (by show 0 ≤ sizeLine; decide) (fun H p6 ws7 z d8 => ?_)
    replace z : Zs ([(p6, HO.lst ws7)] ++ amb) H Ho := z
    have o9 := OL.mk (p := p6) d8
    refine l_fr o9 z (fun Ho e z d10 => ?_)
    replace d_firsts_ := BD.mo d_firsts_ e
    replace d_now_ := LV.mo d_now_ e
    replace d4 := D.mo d4 e
    have es11 := es5.trans e
    refine g_dget2 ea1 (BD.sub d_firsts_ mgE) z d4 d10 (fun w d12 => ?_)
    refine l_d (K := K) (Ho := Ho) hw d12 (fun there_ v_there_ d_there_ hw => ?_)
    refine y_ret ?_
    refine y_lc ?_
    refine k_iList ?_
    refine y_var rfl ?_
    refine k_srcL (r0 := ([] : Grp)) (LV.of d_there_) mgN z (fun J T => ?_)
    refine y_lcG z mgN T hw (fun r13 a x H Ho N N' e z dx hw => ?_) (fun t22 H Ho e hw p19 ws20 z d21 => ?_)
    · replace z : Zs ([r13] ++ amb) H Ho := z
      replace d_now_ := LV.mo d_now_ e
      replace d_there_ := D.mo d_there_ e
      have es14 := es11.trans e
      obtain ⟨other_, k_⟩ := a
      refine c_gt2 (fun v_other_ v_k_ => [some v_firsts_, some v_now_, some (V.int hand_), some v_there_, some v_other_, some v_k_]) (fun _ _ => rfl) dx z (fun v_other_ v_k_ d_other_ d_k_ => ?_)
      obtain rfl := d_int d_other_
      obtain rfl := d_int d_k_
      refine ⟨rfl, ?_⟩
      refine y_test ?_
      refine y_op ?_
      refine y_var rfl ?_
      refine y_op ?_
      refine y_var rfl ?_
      refine y_var rfl ?_
      refine y_ixL (LV.sub d_now_ (mgS mgE)) z hw (fun t15 w d16 hw => ?_)
      first | obtain rfl := d_int d16 | cases d_int d16
      refine y_i0 ?_
      refine ⟨_, rfl, ?_⟩
      refine w_two (fun hb => ?_) (fun hb => ?_)
      · replace hw := run_itT (run_ret hw) hb
        refine k_tup ?_
        refine y_cons ?_
        refine y_var rfl ?_
        refine y_cons ?_
        refine y_var rfl ?_
        refine y_nil ?_
        refine k_tupk (K := K) (x := (other_, k_)) z (by show 2 ≤ sizeLine; decide) _ rfl (DqAll.cons (Dq.int _) (DqAll.cons (Dq.int _) DqAll.nil)) (fun p H Ho e z d17 => ?_)
        replace d_now_ := LV.mo d_now_ e
        replace d_there_ := D.mo d_there_ e
        have es18 := (Same.refl _).trans e
        exact (run_ret hw) _ _ _ es18 z d17
      · exact run_itF (run_ret hw) hb _ _ (Same.refl _) z
    replace d_now_ := LV.mo d_now_ e
    replace d_there_ := D.mo d_there_ e
    have es23 := es11.trans e
    replace z : Zs ([(p19, HO.lst ws20)] ++ amb) H Ho := z
    have o24 := OL.mk (p := p19) d21
    refine l_fr o24 z (fun Ho e z d25 => ?_)
    have es26 := es23.trans e
    exact (run_ret hw) _ _ _ es26 z d25
def sp_ready (K : PySem.W.Frag) (cl : Nat → Addr) : Sp := fun vs H Q E => ∃ (amb : Grp) (Ho : Hp) (v0 : V) (x0 : (List Int)) (v1 : V) (x1 : (Dc (Int × Int) (List (Int × Int)))) (v2 : V) (x2 : (List Int)), vs = [v0, v1, v2] ∧ Zs amb H Ho ∧ LV K amb Ho v0 x0 ∧ BD K amb Ho v1 x1 ∧ LV K amb Ho v2 x2 ∧ (m_ready x0 x1 x2).run fun r => ∀ v H' Ho', Same Ho Ho' → Zs amb H' Ho' → Z.D K Ho' v r → Q v H'
abbrev s_ready : Stmt := topS 9
theorem sc_ready : FnScope ["counts", "firsts", "now", "hands", "hand"] ["counts", "firsts", "now"] (defScope s_ready) := ⟨rfl, rfl, rfl, by decide +kernel, rfl, by decide +kernel, by decide +kernel⟩
theorem ok_ready {f : Addr} {fd : FuncData} (F : Fun K "ready" "ready" s_ready f fd) {f_waits_for : Addr} {fd_waits_for : FuncData} (c_waits_for : Cal P w K mg base CX0 "waits_for" ["firsts", "now", "hand"] 1 (sp_waits_for K cl) f_waits_for fd_waits_for) (m_len : mg "len" = none) (m_range : mg "range" = none) :
    FnOk P w K mg base CX0 2 f fd ["counts", "firsts", "now"] (sp_ready K cl) := by
  refine F.ok sc_ready (fun vs H Q E h => ?_) (fun cdv A outer s H vs Q E hr h => ?_)
  · obtain ⟨amb, Ho, v_counts_, counts_, v_firsts_, firsts_, v_now_, now_, rfl, _⟩ := h
    rfl
  · obtain ⟨amb, Ho, v_counts_, counts_, v_firsts_, firsts_, v_now_, now_, rfl, z, d_counts_, d_firsts_, d_now_, hw⟩ := h
    refine ⟨_, pss_cons (ps_setLc (i := 3) (own := [("hand", 4)]) rfl sc_ready.nd rfl rfl (sw_true rfl rfl rfl (by decide +kernel)) (pi_range1 (by rfl) m_range (pa_cons (pe_callB (zlen (K := K) rfl) (by rfl) m_len (by decide +kernel) (pa_cons (pv 0) (pa_nil))) (pa_nil))) (blkOk_by (N := ["counts", "firsts", "now", "hands", "hand"]) (sc := defScope s_ready) (by decide +kernel)) (fun _ _ _ _ _ => pg_name (i := 4) sc_ready.nd rfl (Or.inl rfl)) (fun _ _ _ _ _ => pts_one (pt_cmpR (op_lt) (pe_ix (zix_list (K := K) rfl) (pv 2) (pv 4) (fun _ _ => rfl)) (pe_ix (zix_list (K := K) rfl) (pv 0) (pv 4) (fun _ _ => rfl)) (nomark _))) (fun _ _ _ _ _ => pv 4)) (pss_cons (ps_ret (pe_lc (own := [("hand", 4)]) rfl sc_ready.nd (zpi_list (K := K) rfl (pv 3)) (blkOk_by (N := ["counts", "firsts", "now", "hands", "hand"]) (sc := defScope s_ready) (by decide +kernel)) (fun _ _ _ _ _ => pg_name (i := 4) sc_ready.nd rfl (Or.inl rfl)) (fun _ _ _ _ _ => pts_one (pt_cmpR (zop_eqD (K := K) rfl hr.units) (pe_call c_waits_for.ok (hr.mono (by decide)) (by rfl) c_waits_for.g c_waits_for.kp c_waits_for.b .nil pass0 (pa_cons (pv 1) (pa_cons (pv 2) (pa_cons (pv 4) (pa_nil))))) (pe_lst (pa_nil)) (nomark _))) (fun _ _ _ _ _ => pv 4))) (pss_nil)), ?_⟩
    refine l_asg (fun v => [_, _, _, some v, _]) (fun _ => rfl) ?_
    refine y_lc ?_
    refine k_iR1 ?_
    refine y_cons ?_
    refine y_cb ?_
    refine y_cons ?_
    refine y_var rfl ?_
    refine y_nil ?_
    refine y_len (LV.sub d_counts_ mgE) z ?_
    refine y_nil ?_
    refine k_srcR1 (K := K) (Ho := Ho) hw.1 (fun J T => ?_)
    replace hw := (run_gd hw).2
    refine y_lcG z mgN T hw (fun r1 hand_ v_hand_ H Ho N N' e z d_hand_ hw => ?_) (fun t10 H Ho e hw p7 ws8 z d9 => ?_)
    · replace z : Zs ([r1] ++ amb) H Ho := z
      replace d_counts_ := LV.mo d_counts_ e
      replace d_firsts_ := BD.mo d_firsts_ e
      replace d_now_ := LV.mo d_now_ e
      have es2 := (Same.refl _).trans e
      obtain rfl := d_int d_hand_
      refine y_gname (σ' := [some v_counts_, some v_firsts_, some v_now_, none, some (V.int hand_)]) rfl ?_
      refine ⟨rfl, ?_⟩
      refine y_test ?_
      refine y_op ?_
      refine y_op ?_
      refine y_var rfl ?_
      refine y_var rfl ?_
      refine y_ixL (LV.sub d_now_ (mgS mgE)) z hw (fun t3 w d4 hw => ?_)
      first | obtain rfl := d_int d4 | cases d_int d4
      refine y_op ?_
      refine y_var rfl ?_
      refine y_var rfl ?_
      refine y_ixL (LV.sub d_counts_ (mgS mgE)) z hw (fun t5 w d6 hw => ?_)
      first | obtain rfl := d_int d6 | cases d_int d6
      refine y_i0 ?_
      refine ⟨_, rfl, ?_⟩
      refine w_two (fun hb => ?_) (fun hb => ?_)
      · replace hw := run_itT (run_ret hw) hb
        refine y_var rfl ?_
        exact (run_ret hw) _ _ _ (Same.refl _) z (Dq.int _)
      · exact run_itF (run_ret hw) hb _ _ (Same.refl _) z
    replace d_counts_ := LV.mo d_counts_ e
    replace d_firsts_ := BD.mo d_firsts_ e
    replace d_now_ := LV.mo d_now_ e
    have es11 := (Same.refl _).trans e
    replace z : Zs ([(p7, HO.lst ws8)] ++ amb) H Ho := z
    have o12 := OL.mk (p := p7) d9
    refine l_fr o12 z (fun Ho e z d13 => ?_)
    replace d_firsts_ := BD.mo d_firsts_ e
    replace d_now_ := LV.mo d_now_ e
    have es14 := es11.trans e
    refine l_d (K := K) (Ho := Ho) hw d13 (fun hands_ v_hands_ d_hands_ hw => ?_)
    refine y_ret ?_
    refine y_lc ?_
    refine k_iList ?_
    refine y_var rfl ?_
    refine k_srcL (r0 := ([] : Grp)) (LV.of d_hands_) mgN z (fun J T => ?_)
    refine y_lcG z mgN T hw (fun r15 hand_ v_hand_ H Ho N N' e z d_hand_ hw => ?_) (fun t28 H Ho e hw p25 ws26 z d27 => ?_)
    · replace z : Zs ([r15] ++ amb) H Ho := z
      replace d_firsts_ := BD.mo d_firsts_ e
      replace d_hands_ := D.mo d_hands_ e
      replace d_now_ := LV.mo d_now_ e
      have es16 := es14.trans e
      obtain rfl := d_int d_hand_
      refine y_gname (σ' := [some v_counts_, some v_firsts_, some v_now_, some v_hands_, some (V.int hand_)]) rfl ?_
      refine ⟨rfl, ?_⟩
      refine y_test ?_
      refine y_op ?_
      refine y_call ?_
      refine y_cons ?_
      refine y_var rfl ?_
      refine y_cons ?_
      refine y_var rfl ?_
      refine y_cons ?_
      refine y_var rfl ?_
      refine y_nil ?_
      refine ⟨([r15] ++ amb), _, _, _, _, _, _, _, rfl, z, (BD.sub d_firsts_ (mgS mgE)), (LV.sub d_now_ (mgS mgE)), (Dq.int _), ?_⟩
      refine run_mono3 hw (fun t17 hw v H Ho e z d18 => ?_)
      replace d_firsts_ := BD.mo d_firsts_ e
      replace d_hands_ := D.mo d_hands_ e
      replace d_now_ := LV.mo d_now_ e
      have es20 := (Same.refl _).trans e
      refine k_lst ?_
      refine y_nil ?_
      refine k_lstk (K := K) (xs := ([] : (List (Int × Int)))) z DqAll.nil (by show 0 ≤ sizeLine; decide) (fun H p21 ws22 z d23 => ?_)
      replace z : Zs ([(p21, HO.lst ws22)] ++ ([r15] ++ amb)) H Ho := z
      have o24 := OL.mk (p := p21) d23
      refine y_eqD (D.mo d18 z.le) (LV.dp (OL.lv o24 mg0) z) hw.1 ?_
      replace hw := (run_gd hw).2
      refine ⟨_, rfl, ?_⟩
      replace z : Zs ([r15] ++ amb) _ _ := z.go [[(p21, HO.lst ws22)], [r15]] amb [1]
      refine w_two (fun hb => ?_) (fun hb => ?_)
      · replace hw := run_itT (run_ret hw) hb
        refine y_var rfl ?_
        exact (run_ret hw) _ _ _ es20 z (Dq.int _)
      · exact run_itF (run_ret hw) hb _ _ es20 z
    replace d_firsts_ := BD.mo d_firsts_ e
    replace d_hands_ := D.mo d_hands_ e
    replace d_now_ := LV.mo d_now_ e
    have es29 := es14.trans e
    replace z : Zs ([(p25, HO.lst ws26)] ++ amb) H Ho := z
    have o30 := OL.mk (p := p25) d27
    refine l_fr o30 z (fun Ho e z d31 => ?_)
    have es32 := es29.trans e
    exact (run_ret hw) _ _ _ es32 z d31
def sp_first_order (K : PySem.W.Frag) (cl : Nat → Addr) : Sp := fun vs H Q E => ∃ (amb : Grp) (Ho : Hp) (v0 : V) (x0 : ((List Int) × (List (P4 Int Int Int Int)))), vs = [v0] ∧ Zs amb H Ho ∧ LP K amb Ho v0 x0 ∧ (m_first_order x0).run fun r => ∀ v H' Ho', Same Ho Ho' → Zs amb H' Ho' → Z.D K Ho' v r → Q v H'
abbrev s_first_order : Stmt := topS 10
theorem sc_first_order : FnScope ["record", "counts", "firsts", "now", "order", "hands"] ["record"] (defScope s_first_order) := ⟨rfl, rfl, rfl, by decide +kernel, rfl, by decide +kernel, by decide +kernel⟩
theorem ok_first_order {f : Addr} {fd : FuncData} (F : Fun K "first_order" "first_order" s_first_order f fd) {f_need_record : Addr} {fd_need_record : FuncData} (c_need_record : Cal P w K mg base CX0 "need_record" ["record"] 2 (sp_need_record K cl) f_need_record fd_need_record) {f_firsts_of : Addr} {fd_firsts_of : FuncData} (c_firsts_of : Cal P w K mg base CX0 "firsts_of" ["record"] 1 (sp_firsts_of K cl) f_firsts_of fd_firsts_of) {f_ready : Addr} {fd_ready : FuncData} (c_ready : Cal P w K mg base CX0 "ready" ["counts", "firsts", "now"] 2 (sp_ready K cl) f_ready fd_ready) (m_len : mg "len" = none) (m_sum : mg "sum" = none) :
    FnOk P w K mg base CX0 3 f fd ["record"] (sp_first_order K cl) := by
  refine F.ok sc_first_order (fun vs H Q E h => ?_) (fun cdv A outer s H vs Q E hr h => ?_)
  · obtain ⟨amb, Ho, v_record_, record_, rfl, _⟩ := h
    rfl
  · obtain ⟨amb, Ho, v_record_, record_, rfl, z, d_record_, hw⟩ := h
    refine ⟨_, pss_cons (ps_expr (pe_call c_need_record.ok (hr.mono (by decide)) (by rfl) c_need_record.g c_need_record.kp c_need_record.b .nil pass0 (pa_cons (pv 0) (pa_nil)))) (pss_cons (ps_set (i := 1) sc_first_order.nd rfl (Or.inl rfl) (pe_ix (zix_tup (K := K) rfl) (pv 0) (pe_int) (fun _ _ => rfl))) (pss_cons (ps_set (i := 2) sc_first_order.nd rfl (Or.inl rfl) (pe_call c_firsts_of.ok (hr.mono (by decide)) (by rfl) c_firsts_of.g c_firsts_of.kp c_firsts_of.b .nil pass0 (pa_cons (pv 0) (pa_nil)))) (pss_cons (ps_set (i := 3) sc_first_order.nd rfl (Or.inl rfl) (pe_op op_rep (pe_lst (pa_cons (pe_int) (pa_nil))) (pe_callB (zlen (K := K) rfl) (by rfl) m_len (by decide +kernel) (pa_cons (pv 1) (pa_nil))))) (pss_cons (ps_set (i := 4) sc_first_order.nd rfl (Or.inl rfl) (pe_lst (pa_nil))) (pss_cons (ps_while PassesOwn.never (pt_cmpR (op_lt) (pe_callB (zlen (K := K) rfl) (by rfl) m_len (by decide +kernel) (pa_cons (pv 4) (pa_nil))) (pe_callB (zsum (K := K) rfl rfl) (by rfl) m_sum (by decide +kernel) (pa_cons (pv 1) (pa_nil))) (nomark _)) (pss_cons (ps_set (i := 5) sc_first_order.nd rfl (Or.inl rfl) (pe_call c_ready.ok (hr.mono (by decide)) (by rfl) c_ready.g c_ready.kp c_ready.b .nil pass0 (pa_cons (pv 1) (pa_cons (pv 2) (pa_cons (pv 3) (pa_nil)))))) (pss_cons (ps_if (pt_cmpR (zop_eqD (K := K) rfl hr.units) (pv 5) (pe_lst (pa_nil)) (nomark _)) (pss_cons (ps_ret (pe_non)) (pss_nil)) (pss_nil)) (pss_cons (ps_expr (pe_bm PySem.F.plainAttrs_list PySem.F.slot_list_append PySem.F.type_list_append mt_append (pv 4) (pa_cons (pe_ix (zix_list (K := K) rfl) (pv 5) (pe_int) (fun _ _ => rfl)) (pa_nil)))) (pss_cons (ps_augS (pv 3) (pe_ix (zix_list (K := K) rfl) (pv 5) (pe_int) (fun _ _ => rfl)) (zget_list (K := K) rfl) (pe_int) ip_add set_list) (pss_nil)))))) (pss_cons (ps_ret (pv 4)) (pss_nil))))))), ?_⟩
    obtain ⟨v_record__0_, v_record__1_, t_record_, d_record__0_, d_record__1_⟩ := d_record_
    refine h_nmG (P := fun x => LV K amb Ho v_record__0_ x) hw d_record__0_ (fun record__0_ d_record__0_ hw => ?_)
    refine h_nmG (P := fun x => LV K amb Ho v_record__1_ x) hw d_record__1_ (fun record__1_ d_record__1_ hw => ?_)
    refine y_drop ?_
    refine y_call ?_
    refine y_cons ?_
    refine y_var rfl ?_
    refine y_nil ?_
    refine ⟨amb, _, _, _, rfl, z, (LP.of2 t_record_ (LV.sub d_record__0_ mgE) (LV.sub d_record__1_ mgE)), ?_⟩
    refine run_mono3 hw (fun t1 hw v H Ho e z d2 => ?_)
    replace t_record_ := TupAt.mo t_record_ e
    replace d_record__0_ := LV.mo d_record__0_ e
    replace d_record__1_ := LV.mo d_record__1_ e
    have es4 := (Same.refl _).trans e
    cases d2
    refine l_asg (fun v => [_, some v, _, _, _, _]) (fun _ => rfl) ?_
    refine y_op ?_
    refine y_var rfl ?_
    refine y_c ?_
    refine p_ix0 t_record_ z ?_
    refine l_any2 ?_
    refine h_nmG (P := fun x => LV K _ Ho v_record__0_ x) hw d_record__0_ (fun counts_ d_counts_ hw => ?_)
    refine l_asg (fun v => [_, _, some v, _, _, _]) (fun _ => rfl) ?_
    refine y_call ?_
    refine y_cons ?_
    refine y_var rfl ?_
    refine y_nil ?_
    refine ⟨amb, _, _, _, rfl, z, (LP.of2 t_record_ (LV.sub d_record__0_ mgE) (LV.sub d_record__1_ mgE)), ?_⟩
    refine run_mono3 hw (fun t5 hw v g7 H Ho e z d6 => ?_)
    replace d_counts_ := LV.mo d_counts_ e
    replace t_record_ := TupAt.mo t_record_ e
    replace d_record__0_ := LV.mo d_record__0_ e
    replace d_record__1_ := LV.mo d_record__1_ e
    have es8 := es4.trans e
    refine d_o hw z d6 (fun firsts_ v_firsts_ g_firsts_ z d_firsts_ hw => ?_)
    refine l_asg (fun v => [_, _, _, some v, _, _]) (fun _ => rfl) ?_
    refine y_op ?_
    refine k_lst ?_
    refine y_cons ?_
    refine y_c ?_
    refine y_nil ?_
    refine k_lstk (K := K) (xs := ([(0 : Int)] : (List Int))) z (DqAll.cons (Dq.int _) DqAll.nil) (by show 1 ≤ sizeLine; decide) (fun H p9 ws10 z d11 => ?_)
    replace z : Zs ([(p9, HO.lst ws10)] ++ (g_firsts_ ++ amb)) H Ho := z
    have o12 := OL.mk (p := p9) d11
    refine y_cb ?_
    refine y_cons ?_
    refine y_var rfl ?_
    refine y_nil ?_
    refine y_len (LV.sub d_counts_ (mgS (mgS mgE))) z ?_
    refine y_rep z d11 hw.1 (fun H p13 ws14 z d15 => ?_)
    replace hw := (run_gd hw).2
    replace z : Zs ([(p13, HO.lst ws14)] ++ (g_firsts_ ++ amb)) H Ho := z
    have o16 := OL.mk (p := p13) d15
    refine l_o hw z o16 (fun now_ v_now_ g_now_ z d_now_ hw => ?_)
    refine l_asg (fun v => [_, _, _, _, some v, _]) (fun _ => rfl) ?_
    refine k_lst ?_
    refine y_nil ?_
    refine k_lstk (K := K) (xs := ([] : (List Int))) z DqAll.nil (by show 0 ≤ sizeLine; decide) (fun H p17 ws18 z d19 => ?_)
    replace z : Zs ([(p17, HO.lst ws18)] ++ (g_now_ ++ (g_firsts_ ++ amb))) H Ho := z
    have o20 := OL.mk (p := p17) d19
    refine l_o hw z o20 (fun order_ v_order_ g_order_ z d_order_ hw => ?_)
    refine y_while hw (fun (s : (List Int) × (List Int)) (σ : L2.St) (H Ho : Hp) => ∃ (g_now_ : Grp) (g_order_ : Grp) (y_hands_ : Option V), σ = [some v_record_, some v_record__0_, some v_firsts_, some v_now_, some v_order_, y_hands_] ∧ Zs (g_order_ ++ (g_now_ ++ (g_firsts_ ++ amb))) H Ho ∧ OL K Ho v_now_ s.1 g_now_ ∧ OL K Ho v_order_ s.2 g_order_) ⟨_, _, _, rfl, z, d_now_, d_order_⟩ ?_ ?_
    · intro s σ H Ho N B E hE e hI hw
      obtain ⟨now_, order_⟩ := s
      obtain ⟨g_now_, g_order_, y_hands_, rfl, z, d_now_, d_order_⟩ := hI
      replace d_counts_ := LV.mo d_counts_ e
      replace d_firsts_ := OD.mo d_firsts_ e
      replace t_record_ := TupAt.mo t_record_ e
      replace d_record__0_ := LV.mo d_record__0_ e
      replace d_record__1_ := LV.mo d_record__1_ e
      have es21 := es8.trans e
      refine y_test ?_
      refine y_op ?_
      refine y_cb ?_
      refine y_cons ?_
      refine y_var rfl ?_
      refine y_nil ?_
      refine y_len (OL.lv d_order_ mg0) z ?_
      refine y_cb ?_
      refine y_cons ?_
      refine y_var rfl ?_
      refine y_nil ?_
      refine y_sum (LV.sub d_counts_ (mgS (mgS (mgS mgE)))) z ?_
      refine y_i0 ?_
      refine ⟨_, rfl, ?_⟩
      refine y_cases hw (fun hb hw => ?_) (fun hb hw => ?_)
      · refine ⟨_, hE, ?_⟩
        refine l_asg (fun v => [_, _, _, _, _, some v]) (fun _ => rfl) ?_
        refine y_call ?_
        refine y_cons ?_
        refine y_var rfl ?_
        refine y_cons ?_
        refine y_var rfl ?_
        refine y_cons ?_
        refine y_var rfl ?_
        refine y_nil ?_
        refine ⟨(g_order_ ++ (g_now_ ++ (g_firsts_ ++ amb))), _, _, _, _, _, _, _, rfl, z, (LV.sub d_counts_ (mgS (mgS (mgS mgE)))), ⟨_, d_firsts_, (mgS (mgS mg0))⟩, (OL.lv d_now_ (mgS mg0)), ?_⟩
        refine run_mono3 hw (fun t22 hw v H Ho e z d23 => ?_)
        replace d_counts_ := LV.mo d_counts_ e
        replace d_firsts_ := OD.mo d_firsts_ e
        replace d_now_ := OL.mo d_now_ e
        replace d_order_ := OL.mo d_order_ e
        replace t_record_ := TupAt.mo t_record_ e
        replace d_record__0_ := LV.mo d_record__0_ e
        replace d_record__1_ := LV.mo d_record__1_ e
        have es25 := (Same.refl _).trans e
        refine l_d (K := K) (Ho := Ho) hw d23 (fun hands_ v_hands_ d_hands_ hw => ?_)
        refine y_ifS ?_
        refine y_test ?_
        refine y_op ?_
        refine y_var rfl ?_
        refine k_lst ?_
        refine y_nil ?_
        refine k_lstk (K := K) (xs := ([] : (List Int))) z DqAll.nil (by show 0 ≤ sizeLine; decide) (fun H p26 ws27 z d28 => ?_)
        replace z : Zs ([(p26, HO.lst ws27)] ++ (g_order_ ++ (g_now_ ++ (g_firsts_ ++ amb)))) H Ho := z
        have o29 := OL.mk (p := p26) d28
        refine y_eqD (D.mo d_hands_ z.le) (LV.dp (OL.lv o29 mg0) z) hw.1 ?_
        replace hw := (run_gd hw).2
        refine ⟨_, rfl, ?_⟩
        refine y_cases hw (fun hb hw => ?_) (fun hb hw => ?_)
        · replace z : Zs (g_order_ ++ (g_now_ ++ (g_firsts_ ++ amb))) _ _ := z.go [[(p26, HO.lst ws27)], g_order_, g_now_, g_firsts_] amb [1, 2, 3]
          refine y_ret ?_
          refine y_c ?_
          replace z : Zs amb _ _ := z.go [g_order_, g_now_, g_firsts_] amb []
          exact (ctl_rt (run_ret hw)) _ _ _ (es21.trans es25) z (show Z.D K Ho V.non (none : (Option (List Int))) from Dq.non)
        · refine y_nxS ?_
          replace z : Zs (g_order_ ++ (g_now_ ++ (g_firsts_ ++ amb))) _ _ := z.go [[(p26, HO.lst ws27)], g_order_, g_now_, g_firsts_] amb [1, 2, 3]
          refine y_drop ?_
          refine y_bm ?_
          refine y_var rfl ?_
          refine g_tyL (OL.lv d_order_ mg0) z ?_
          refine y_cons ?_
          refine y_op ?_
          refine y_var rfl ?_
          refine y_c ?_
          refine y_ixL (LV.of d_hands_) z hw (fun t30 w d31 hw => ?_)
          first | obtain rfl := d_int d31 | cases d_int d31
          refine y_nil ?_
          refine g_app z d_order_ (Dq.int _) hw (fun order_ g_order_ H z d_order_ hw => ?_)
          refine y_augS ?_
          refine y_var rfl ?_
          refine y_op ?_
          refine y_var rfl ?_
          refine y_c ?_
          refine y_ixL (LV.of d_hands_) z hw (fun t32 w d33 hw => ?_)
          first | obtain rfl := d_int d33 | cases d_int d33
          refine y_ixL (OL.lv d_now_ (mgS mg0)) z hw (fun t34 w d35 hw => ?_)
          obtain rfl := d_int d35
          refine y_c ?_
          refine y_ip ?_
          replace z : Zs (g_now_ ++ (g_order_ ++ (g_firsts_ ++ amb))) _ _ := z.go [g_order_, g_now_, g_firsts_] amb [1, 0, 2]
          refine g_sti z d_now_ (Dq.int _) hw (fun now_ g_now_ H z d_now_ hw => ?_)
          replace z : Zs (g_order_ ++ (g_now_ ++ (g_firsts_ ++ amb))) _ _ := z.go [g_now_, g_order_, g_firsts_] amb [1, 0, 2]
          exact ctl_nx (run_ret hw) _ _ _ es25 ⟨_, _, _, rfl, z, d_now_, d_order_⟩
      · exact ctl_bk (run_ret hw) _ _ _ (Same.refl _) ⟨_, _, _, rfl, z, d_now_, d_order_⟩
    intro s σ H Ho e hI hw
    obtain ⟨now_, order_⟩ := s
    obtain ⟨g_now_, g_order_, y_hands_, rfl, z, d_now_, d_order_⟩ := hI
    replace d_firsts_ := OD.mo d_firsts_ e
    replace t_record_ := TupAt.mo t_record_ e
    replace d_record__0_ := LV.mo d_record__0_ e
    replace d_record__1_ := LV.mo d_record__1_ e
    have es36 := es8.trans e
    refine y_ret ?_
    refine y_var rfl ?_
    refine l_fr d_order_ z (fun Ho e z d_order_ => ?_)
    replace d_firsts_ := OD.mo d_firsts_ e
    replace d_now_ := OL.mo d_now_ e
    replace t_record_ := TupAt.mo t_record_ e
    replace d_record__0_ := LV.mo d_record__0_ e
    replace d_record__1_ := LV.mo d_record__1_ e
    have es37 := es36.trans e
    replace z : Zs amb _ _ := z.go [g_now_, g_firsts_] amb []
    exact (run_ret hw) _ _ _ es37 z (show Z.D K Ho _ (some order_) from d_order_)
def sp_led_on (K : PySem.W.Frag) (cl : Nat → Addr) : Sp := fun vs H Q E => ∃ (amb : Grp) (Ho : Hp) (v0 : V) (x0 : (List (P4 Int Int Int Int))) (v1 : V) (x1 : (Dc Int (Int × (List (P4 Int Int Int Int))))), vs = [v0, v1] ∧ Zs amb H Ho ∧ LV K amb Ho v0 x0 ∧ BD K amb Ho v1 x1 ∧ (m_led_on x0 x1).run fun r => ∀ v g H' Ho', Same Ho Ho' → Zs (g ++ amb) H' Ho' → OD K Ho' v r g → Q v H'
abbrev s_led_on : Stmt := topS 11
theorem sc_led_on : FnScope ["some", "ways", "found", "hand", "k", "other", "m"] ["some", "ways"] (defScope s_led_on) := ⟨rfl, rfl, rfl, by decide +kernel, rfl, by decide +kernel, by decide +kernel⟩
theorem ok_led_on {f : Addr} {fd : FuncData} (F : Fun K "led_on" "led_on" s_led_on f fd) (m_dict : mg "dict" = none) :
    FnOk P w K mg base CX0 1 f fd ["some", "ways"] (sp_led_on K cl) := by
  refine F.ok sc_led_on (fun vs H Q E h => ?_) (fun cdv A outer s H vs Q E hr h => ?_)
  · obtain ⟨amb, Ho, v_some_, some_, v_ways_, ways_, rfl, _⟩ := h
    rfl
  · obtain ⟨amb, Ho, v_some_, some_, v_ways_, ways_, rfl, z, d_some_, d_ways_, hw⟩ := h
    refine ⟨_, pss_cons (ps_set (i := 2) sc_led_on.nd rfl (Or.inl rfl) (pe_callTy zdcp (by rfl) m_dict (by decide +kernel) (pa_cons (pv 1) (pa_nil)))) (pss_cons (ps_for PassesOwn.never rfl (zpi_list (K := K) rfl (pv 0)) (zpg_tup (K := K) (n := 4) rfl rfl (pgs_cons (pg_name (i := 3) sc_led_on.nd rfl (Or.inl rfl)) (pgs_cons (pg_name (i := 4) sc_led_on.nd rfl (Or.inl rfl)) (pgs_cons (pg_name (i := 5) sc_led_on.nd rfl (Or.inl rfl)) (pgs_cons (pg_name (i := 6) sc_led_on.nd rfl (Or.inl rfl)) (pgs_nil)))))) (pss_cons (ps_if (PW.pt (pw_and (pt_cmp (pc_din (room1 hr) (pv 3) (pv 1))) (pw_and (pt_cmpR (op_le) (pe_ix (zix_tup (K := K) rfl) (pe_dget (room1 hr) (pv 1) (pv 3) (fun _ _ => rfl)) (pe_int) (fun _ _ => rfl)) (pv 4) (nomark _)) (pw_and1 (PW.pt (pw_or (pt_cmp (pc_dnotin (room1 hr) (pv 5) (pv 2))) (pw_or1 (pt_cmpR (op_lt) (pv 6) (pe_ix (zix_tup (K := K) rfl) (pe_dget (room1 hr) (pv 2) (pv 5) (fun _ _ => rfl)) (pe_int) (fun _ _ => rfl)) (nomark _))))))))) (pss_cons (ps_dput (room1 hr) (pv 2) (pv 5) (pe_tup (pa_cons (pv 6) (pa_cons (pe_op (zop_catS (K := K) rfl) (pe_ix (zix_tup (K := K) rfl) (pe_dget (room1 hr) (pv 1) (pv 3) (fun _ _ => rfl)) (pe_int) (fun _ _ => rfl)) (pe_lst (pa_cons (pe_tup (pa_cons (pv 3) (pa_cons (pv 4) (pa_cons (pv 5) (pa_cons (pv 6) (pa_nil)))))) (pa_nil)))) (pa_nil)))) (by rfl)) (pss_nil)) (pss_nil)) (pss_nil))) (pss_cons (ps_ret (pv 2)) (pss_nil))), ?_⟩
    refine l_asg (fun v => [_, _, some v, _, _, _, _]) (fun _ => rfl) ?_
    refine y_cb ?_
    refine y_cons ?_
    refine y_var rfl ?_
    refine y_nil ?_
    refine y_dcp (BD.sub d_ways_ mgE) z (fun p1 H g2 z o3 => ?_)
    refine d_o hw z o3 (fun found_ v_found_ g_found_ z d_found_ hw => ?_)
    refine y_for ?_
    refine k_iList ?_
    refine y_var rfl ?_
    refine k_srcL (r0 := amb) (LV.sub d_some_ mgE) (mgS mgE) z (fun J T => ?_)
    refine y_forL T hw (fun (s : (Dc Int (Int × (List (P4 Int Int Int Int))))) (σ : L2.St) (H Ho : Hp) => ∃ (g_found_ : Grp) (y_hand_ : Option V) (y_k_ : Option V) (y_other_ : Option V) (y_m_ : Option V), σ = [some v_some_, some v_ways_, some v_found_, y_hand_, y_k_, y_other_, y_m_] ∧ Zs (g_found_ ++ amb) H Ho ∧ OD K Ho v_found_ s g_found_) ⟨_, _, _, _, _, rfl, z, d_found_⟩ ?_ ?_ ?_ ?_
    · intro s σ H Ho hI
      obtain ⟨g_found_, y_hand_, y_k_, y_other_, y_m_, rfl, z, d_found_⟩ := hI
      exact ⟨_, z, (mgS mgE)⟩
    · intro s σ H Ho H2 Ho2 hI e t
      obtain ⟨g_found_, y_hand_, y_k_, y_other_, y_m_, rfl, z, d_found_⟩ := hI
      exact ⟨_, _, _, _, _, rfl, t _ z, OD.mo d_found_ e⟩
    · intro a x s σ H Ho N e hI dx hw
      obtain ⟨found_, rfl⟩ : ∃ q, q = s := ⟨_, rfl⟩
      obtain ⟨g_found_, y_hand_, y_k_, y_other_, y_m_, rfl, z, d_found_⟩ := hI
      replace d_ways_ := BD.mo d_ways_ e
      have es4 := (Same.refl _).trans e
      obtain ⟨hand_, k_, other_, m_⟩ := a
      refine c_gt4 (fun v_hand_ v_k_ v_other_ v_m_ => [some v_some_, some v_ways_, some v_found_, some v_hand_, some v_k_, some v_other_, some v_m_]) (fun _ _ _ _ => rfl) dx z (fun v_hand_ v_k_ v_other_ v_m_ d_hand_ d_k_ d_other_ d_m_ => ?_)
      obtain rfl := d_int d_hand_
      obtain rfl := d_int d_k_
      obtain rfl := d_int d_other_
      obtain rfl := d_int d_m_
      refine y_ifS ?_
      refine y_and ?_
      refine y_tB ?_
      refine y_din ?_
      refine y_var rfl ?_
      refine y_var rfl ?_
      refine g_din (BD.sub d_ways_ (mgS mgE)) z (Dq.int _) ?_
      refine ⟨_, rfl, ?_⟩
      refine w_andJ hw (fun (s : Bool) (v : Bool) (H2 : Hp) => ∃ (Ho2 : Hp), Same Ho Ho2 ∧ Zs (g_found_ ++ amb) H2 Ho2 ∧ v = s) (fun hb hw => ?_) (fun hb hw => ?_) ?_
      · refine y_and ?_
        refine y_test ?_
        refine y_op ?_
        refine y_op ?_
        refine y_dget ?_
        refine y_var rfl ?_
        refine y_var rfl ?_
        refine g_dget (BD.sub d_ways_ (mgS mgE)) z (Dq.int _) hw (fun t5 w d6 hw => ?_)
        refine y_c ?_
        refine y_ixT (y := t5.1) d6 z ⟨_, rfl, rfl⟩ (fun w d7 => ?_)
        first | obtain rfl := d_int d7 | cases d_int d7
        refine y_var rfl ?_
        refine y_i0 ?_
        refine ⟨_, rfl, ?_⟩
        refine w_andJ hw (fun (s : Bool) (v : Bool) (H2 : Hp) => ∃ (Ho2 : Hp), Same Ho Ho2 ∧ Zs (g_found_ ++ amb) H2 Ho2 ∧ v = s) (fun hb hw => ?_) (fun hb hw => ?_) ?_
        · refine y_or ?_
          refine y_tB ?_
          refine y_dnotin ?_
          refine y_var rfl ?_
          refine y_var rfl ?_
          refine g_dnotin ⟨_, d_found_, mg0⟩ z (Dq.int _) ?_
          refine ⟨_, rfl, ?_⟩
          refine w_orJ hw (fun (s : Bool) (v : Bool) (H2 : Hp) => ∃ (Ho2 : Hp), Same Ho Ho2 ∧ Zs (g_found_ ++ amb) H2 Ho2 ∧ v = s) (fun hb hw => ?_) (fun hb hw => ?_) ?_
          · exact (run_ret hw) _ _ ⟨_, (Same.refl _), z, rfl⟩
          · refine y_test ?_
            refine y_op ?_
            refine y_var rfl ?_
            refine y_op ?_
            refine y_dget ?_
            refine y_var rfl ?_
            refine y_var rfl ?_
            refine g_dget ⟨_, d_found_, mg0⟩ z (Dq.int _) hw (fun t8 w d9 hw => ?_)
            refine y_c ?_
            refine y_ixT (y := t8.1) d9 z ⟨_, rfl, rfl⟩ (fun w d10 => ?_)
            first | obtain rfl := d_int d10 | cases d_int d10
            refine y_i0 ?_
            refine ⟨_, rfl, ?_⟩
            exact (run_ret hw) _ _ ⟨_, (Same.refl _), z, rfl⟩
          rintro t11 v H ⟨Ho, e, z, rfl⟩ hw
          replace d_found_ := OD.mo d_found_ e
          replace d_ways_ := BD.mo d_ways_ e
          have es14 := (Same.refl _).trans e
          exact (run_ret hw) _ _ ⟨_, es14, z, rfl⟩
        · exact (run_ret hw) _ _ ⟨_, (Same.refl _), z, rfl⟩
        rintro t15 v H ⟨Ho, e, z, rfl⟩ hw
        replace d_found_ := OD.mo d_found_ e
        replace d_ways_ := BD.mo d_ways_ e
        have es18 := (Same.refl _).trans e
        exact (run_ret hw) _ _ ⟨_, es18, z, rfl⟩
      · exact (run_ret hw) _ _ ⟨_, (Same.refl _), z, rfl⟩
      rintro t19 v H ⟨Ho, e, z, rfl⟩ hw
      replace d_found_ := OD.mo d_found_ e
      replace d_ways_ := BD.mo d_ways_ e
      have es22 := (Same.refl _).trans e
      refine w_ifJ hw (fun (s : (Dc Int (Int × (List (P4 Int Int Int Int))))) (σ : L2.St) (H : Hp) => ∃ Ho2, Same Ho Ho2 ∧ (fun (s : (Dc Int (Int × (List (P4 Int Int Int Int))))) (σ : L2.St) (H Ho : Hp) => ∃ (g_found_ : Grp), σ = [some v_some_, some v_ways_, some v_found_, some (V.int hand_), some (V.int k_), some (V.int other_), some (V.int m_)] ∧ Zs (g_found_ ++ amb) H Ho ∧ OD K Ho v_found_ s g_found_) s σ H Ho2) (fun hb hw => ?_) (fun hb hw => ?_) ?_
      · refine y_dput ?_
        refine k_tup ?_
        refine y_cons ?_
        refine y_var rfl ?_
        refine y_cons ?_
        refine y_op ?_
        refine y_op ?_
        refine y_dget ?_
        refine y_var rfl ?_
        refine y_var rfl ?_
        refine g_dget (BD.sub d_ways_ (mgS mgE)) z (Dq.int _) hw (fun t23 w d24 hw => ?_)
        refine y_c ?_
        refine y_ixT (y := t23.2) d24 z ⟨_, rfl, rfl⟩ (fun w d25 => ?_)
        refine k_lst ?_
        refine y_cons ?_
        refine k_tup ?_
        refine y_cons ?_
        refine y_var rfl ?_
        refine y_cons ?_
        refine y_var rfl ?_
        refine y_cons ?_
        refine y_var rfl ?_
        refine y_cons ?_
        refine y_var rfl ?_
        refine y_nil ?_
        refine k_tupk (K := K) (x := (⟨hand_, k_, other_, m_⟩ : (P4 Int Int Int Int))) z (by show 4 ≤ sizeLine; decide) _ rfl (DqAll.cons (Dq.int _) (DqAll.cons (Dq.int _) (DqAll.cons (Dq.int _) (DqAll.cons (Dq.int _) DqAll.nil)))) (fun p H Ho e z d26 => ?_)
        replace d_found_ := OD.mo d_found_ e
        replace d_ways_ := BD.mo d_ways_ e
        replace d25 := D.mo d25 e
        have es27 := (Same.refl _).trans e
        refine y_nil ?_
        refine k_lstk (K := K) (xs := ([(⟨hand_, k_, other_, m_⟩ : (P4 Int Int Int Int))] : (List (P4 Int Int Int Int)))) z (DqAll.cons d26 DqAll.nil) (by show 1 ≤ sizeLine; decide) (fun H p28 ws29 z d30 => ?_)
        replace z : Zs ([(p28, HO.lst ws29)] ++ (g_found_ ++ amb)) H Ho := z
        have o31 := OL.mk (p := p28) d30
        refine y_cat (LV.of d25) (OL.lv o31 mg0) z hw.1 (fun H p32 ws33 z d34 => ?_)
        replace hw := (run_gd hw).2
        replace z : Zs ([(p32, HO.lst ws33)] ++ ([(p28, HO.lst ws29)] ++ (g_found_ ++ amb))) H Ho := z
        have o35 := OL.mk (p := p32) d34
        refine y_nil ?_
        refine l_fr o35 z (fun Ho e z d36 => ?_)
        replace d_found_ := OD.mo d_found_ e
        replace d_ways_ := BD.mo d_ways_ e
        have es37 := es27.trans e
        refine k_tupk (K := K) (x := (m_, (t23.2 ++ ([(⟨hand_, k_, other_, m_⟩ : (P4 Int Int Int Int))] : (List (P4 Int Int Int Int)))))) z (by show 2 ≤ sizeLine; decide) _ rfl (DqAll.cons (Dq.int _) (DqAll.cons d36 DqAll.nil)) (fun p H Ho e z d38 => ?_)
        replace d_found_ := OD.mo d_found_ e
        replace d_ways_ := BD.mo d_ways_ e
        have es39 := es37.trans e
        refine y_var rfl ?_
        refine y_var rfl ?_
        replace z : Zs (g_found_ ++ ([(p28, HO.lst ws29)] ++ amb)) _ _ := z.go [[(p28, HO.lst ws29)], g_found_] amb [1, 0]
        refine g_dput z d_found_ (Dq.int _) d38 hw (fun found_ g_found_ H z d_found_ hw => ?_)
        replace z : Zs (g_found_ ++ amb) _ _ := z.go [g_found_, [(p28, HO.lst ws29)]] amb [0]
        exact (run_ret hw) _ _ ⟨_, es39, ⟨_, rfl, z, d_found_⟩⟩
      · refine y_nxS ?_
        exact (run_ret hw) _ _ ⟨_, (Same.refl _), ⟨_, rfl, z, d_found_⟩⟩
      rintro found_ σ H ⟨Ho, e, g_found_, rfl, z, d_found_⟩ hw
      replace d_ways_ := BD.mo d_ways_ e
      have es40 := es22.trans e
      exact (run_ret hw) _ _ _ es40 ⟨_, _, _, _, _, rfl, z, d_found_⟩
    intro s σ H Ho e hI hw
    obtain ⟨found_, rfl⟩ : ∃ q, q = s := ⟨_, rfl⟩
    obtain ⟨g_found_, y_hand_, y_k_, y_other_, y_m_, rfl, z, d_found_⟩ := hI
    have es41 := (Same.refl _).trans e
    refine y_ret ?_
    refine y_var rfl ?_
    exact (run_ret hw) _ _ _ _ es41 z d_found_
def sp_ring_from (K : PySem.W.Frag) (cl : Nat → Addr) : Sp := fun vs H Q E => ∃ (amb : Grp) (Ho : Hp) (v0 : V) (x0 : (List (P4 Int Int Int Int))) (v1 : V) (x1 : (P4 Int Int Int Int)), vs = [v0, v1] ∧ Zs amb H Ho ∧ LV K amb Ho v0 x0 ∧ Z.D K Ho v1 x1 ∧ (m_ring_from x0 x1).run fun r => ∀ v H' Ho', Same Ho Ho' → Zs amb H' Ho' → Z.D K Ho' v r → Q v H'
abbrev s_ring_from : Stmt := topS 12
theorem sc_ring_from : FnScope ["some", "note", "ways", "step"] ["some", "note"] (defScope s_ring_from) := ⟨rfl, rfl, rfl, by decide +kernel, rfl, by decide +kernel, by decide +kernel⟩
theorem ok_ring_from {f : Addr} {fd : FuncData} (F : Fun K "ring_from" "ring_from" s_ring_from f fd) {f_led_on : Addr} {fd_led_on : FuncData} (c_led_on : Cal P w K mg base CX0 "led_on" ["some", "ways"] 1 (sp_led_on K cl) f_led_on fd_led_on) (m_range : mg "range" = none) {tk_MOST_HANDS : Tok} (g_MOST_HANDS : mg "MOST_HANDS" = some (.int 8 tk_MOST_HANDS)) :
    FnOk P w K mg base CX0 2 f fd ["some", "note"] (sp_ring_from K cl) := by
  refine F.ok sc_ring_from (fun vs H Q E h => ?_) (fun cdv A outer s H vs Q E hr h => ?_)
  · obtain ⟨amb, Ho, v_some_, some_, v_note_, note_, rfl, _⟩ := h
    rfl
  · obtain ⟨amb, Ho, v_some_, some_, v_note_, note_, rfl, z, d_some_, d_note_, hw⟩ := h
    refine ⟨_, pss_cons (ps_set (i := 2) sc_ring_from.nd rfl (Or.inl rfl) (pe_disp1K (pe_ix (zix_tup (K := K) rfl) (pv 1) (pe_int) (fun _ _ => rfl)) (pe_tup (pa_cons (pe_ix (zix_tup (K := K) rfl) (pv 1) (pe_int) (fun _ _ => rfl)) (pa_cons (pe_lst (pa_cons (pv 1) (pa_nil))) (pa_nil)))))) (pss_cons (ps_for PassesOwn.never rfl (pi_range1 (by rfl) m_range (pa_cons (pe_glob (v := .int 8) rfl g_MOST_HANDS ⟨_, rfl⟩) (pa_nil))) (pg_name (i := 3) sc_ring_from.nd rfl (Or.inl rfl)) (pss_cons (ps_if (PW.pt (pw_and (pt_cmp (pc_din (room1 hr) (pe_ix (zix_tup (K := K) rfl) (pv 1) (pe_int) (fun _ _ => rfl)) (pv 2))) (pw_and1 (pt_cmpR (op_le) (pe_ix (zix_tup (K := K) rfl) (pe_dget (room1 hr) (pv 2) (pe_ix (zix_tup (K := K) rfl) (pv 1) (pe_int) (fun _ _ => rfl)) (fun _ _ => rfl)) (pe_int) (fun _ _ => rfl)) (pe_ix (zix_tup (K := K) rfl) (pv 1) (pe_int) (fun _ _ => rfl)) (nomark _))))) (pss_cons (ps_ret (pe_ix (zix_tup (K := K) rfl) (pe_dget (room1 hr) (pv 2) (pe_ix (zix_tup (K := K) rfl) (pv 1) (pe_int) (fun _ _ => rfl)) (fun _ _ => rfl)) (pe_int) (fun _ _ => rfl))) (pss_nil)) (pss_nil)) (pss_cons (ps_set (i := 2) sc_ring_from.nd rfl (Or.inl rfl) (pe_call c_led_on.ok (hr.mono (by decide)) (by rfl) c_led_on.g c_led_on.kp c_led_on.b .nil pass0 (pa_cons (pv 0) (pa_cons (pv 2) (pa_nil))))) (pss_nil)))) (pss_cons (ps_ret (pe_non)) (pss_nil))), ?_⟩
    refine l_asg (fun v => [_, _, some v, _]) (fun _ => rfl) ?_
    refine k_disp1K z (fun p1 H z => ?_)
    replace z : Zs ([(p1, HO.dK [])] ++ amb) _ _ := z
    refine y_op ?_
    refine y_var rfl ?_
    refine y_c ?_
    refine y_ixT (y := note_.c) d_note_ z ⟨_, rfl, rfl⟩ (fun w d2 => ?_)
    first | obtain rfl := d_int d2 | cases d_int d2
    refine k_tup ?_
    refine y_cons ?_
    refine y_op ?_
    refine y_var rfl ?_
    refine y_c ?_
    refine y_ixT (y := note_.d) d_note_ z ⟨_, rfl, rfl⟩ (fun w d3 => ?_)
    first | obtain rfl := d_int d3 | cases d_int d3
    refine y_cons ?_
    refine k_lst ?_
    refine y_cons ?_
    refine y_var rfl ?_
    refine y_nil ?_
    refine k_lstk (K := K) (xs := ([note_] : (List (P4 Int Int Int Int)))) z (DqAll.cons d_note_ DqAll.nil) (by show 1 ≤ sizeLine; decide) (fun H p4 ws5 z d6 => ?_)
    replace z : Zs ([(p4, HO.lst ws5)] ++ ([(p1, HO.dK [])] ++ amb)) H Ho := z
    have o7 := OL.mk (p := p4) d6
    refine y_nil ?_
    refine l_fr o7 z (fun Ho e z d8 => ?_)
    replace d_note_ := D.mo d_note_ e
    replace d_some_ := LV.mo d_some_ e
    have es9 := (Same.refl _).trans e
    refine k_tupk (K := K) (x := (note_.d, ([note_] : (List (P4 Int Int Int Int))))) z (by show 2 ≤ sizeLine; decide) _ rfl (DqAll.cons (Dq.int _) (DqAll.cons d8 DqAll.nil)) (fun p H Ho e z d10 => ?_)
    replace d_note_ := D.mo d_note_ e
    replace d_some_ := LV.mo d_some_ e
    have es11 := es9.trans e
    refine g_disp1K z d10 (fun g12 H z o13 => ?_)
    refine d_o hw z o13 (fun ways_ v_ways_ g_ways_ z d_ways_ hw => ?_)
    refine y_for ?_
    refine k_iR1 ?_
    refine y_cons ?_
    refine y_c ?_
    refine y_nil ?_
    refine k_srcR1 (K := K) (Ho := Ho) hw.1 (fun J T => ?_)
    replace hw := (run_gd hw).2
    refine y_forC T hw (fun (s : (Dc Int (Int × (List (P4 Int Int Int Int))))) (σ : L2.St) (H Ho : Hp) => ∃ (v_ways_ : V) (g_ways_ : Grp) (y_step_ : Option V), σ = [some v_some_, some v_note_, some v_ways_, y_step_] ∧ Zs (g_ways_ ++ amb) H Ho ∧ OD K Ho v_ways_ s g_ways_) ⟨_, _, _, rfl, z, d_ways_⟩ ?_ ?_ ?_ ?_
    · intro s σ H Ho hI
      obtain ⟨v_ways_, g_ways_, y_step_, rfl, z, d_ways_⟩ := hI
      exact ⟨_, z, mgN⟩
    · intro s σ H Ho H2 Ho2 hI e t
      obtain ⟨v_ways_, g_ways_, y_step_, rfl, z, d_ways_⟩ := hI
      exact ⟨_, _, _, rfl, t _ z, OD.mo d_ways_ e⟩
    · intro step_ v_step_ s σ H Ho N B e hI d_step_ hw
      obtain ⟨ways_, rfl⟩ : ∃ q, q = s := ⟨_, rfl⟩
      obtain ⟨v_ways_, g_ways_, y_step_, rfl, z, d_ways_⟩ := hI
      replace d_note_ := D.mo d_note_ e
      replace d_some_ := LV.mo d_some_ e
      have es14 := es11.trans e
      obtain rfl := d_int d_step_
      refine y_gname (σ' := [some v_some_, some v_note_, some v_ways_, some (V.int step_)]) rfl ?_
      refine y_ifS ?_
      refine y_and ?_
      refine y_tB ?_
      refine y_din ?_
      refine y_op ?_
      refine y_var rfl ?_
      refine y_c ?_
      refine y_ixT (y := note_.a) d_note_ z ⟨_, rfl, rfl⟩ (fun w d15 => ?_)
      first | obtain rfl := d_int d15 | cases d_int d15
      refine y_var rfl ?_
      refine g_din ⟨_, d_ways_, mg0⟩ z (Dq.int _) ?_
      refine ⟨_, rfl, ?_⟩
      refine w_andJ hw (fun (s : Bool) (v : Bool) (H2 : Hp) => ∃ (Ho2 : Hp), Same Ho Ho2 ∧ Zs (g_ways_ ++ amb) H2 Ho2 ∧ v = s) (fun hb hw => ?_) (fun hb hw => ?_) ?_
      · refine y_test ?_
        refine y_op ?_
        refine y_op ?_
        refine y_dget ?_
        refine y_var rfl ?_
        refine y_op ?_
        refine y_var rfl ?_
        refine y_c ?_
        refine y_ixT (y := note_.a) d_note_ z ⟨_, rfl, rfl⟩ (fun w d16 => ?_)
        first | obtain rfl := d_int d16 | cases d_int d16
        refine g_dget ⟨_, d_ways_, mg0⟩ z (Dq.int _) hw (fun t17 w d18 hw => ?_)
        refine y_c ?_
        refine y_ixT (y := t17.1) d18 z ⟨_, rfl, rfl⟩ (fun w d19 => ?_)
        first | obtain rfl := d_int d19 | cases d_int d19
        refine y_op ?_
        refine y_var rfl ?_
        refine y_c ?_
        refine y_ixT (y := note_.b) d_note_ z ⟨_, rfl, rfl⟩ (fun w d20 => ?_)
        first | obtain rfl := d_int d20 | cases d_int d20
        refine y_i0 ?_
        refine ⟨_, rfl, ?_⟩
        exact (run_ret hw) _ _ ⟨_, (Same.refl _), z, rfl⟩
      · exact (run_ret hw) _ _ ⟨_, (Same.refl _), z, rfl⟩
      rintro t21 v H ⟨Ho, e, z, rfl⟩ hw
      replace d_note_ := D.mo d_note_ e
      replace d_some_ := LV.mo d_some_ e
      replace d_ways_ := OD.mo d_ways_ e
      have es24 := (Same.refl _).trans e
      refine y_cases hw (fun hb hw => ?_) (fun hb hw => ?_)
      · refine y_ret ?_
        refine y_op ?_
        refine y_dget ?_
        refine y_var rfl ?_
        refine y_op ?_
        refine y_var rfl ?_
        refine y_c ?_
        refine y_ixT (y := note_.a) d_note_ z ⟨_, rfl, rfl⟩ (fun w d25 => ?_)
        first | obtain rfl := d_int d25 | cases d_int d25
        refine g_dget ⟨_, d_ways_, mg0⟩ z (Dq.int _) hw (fun t26 w d27 hw => ?_)
        refine y_c ?_
        refine y_ixT (y := t26.2) d27 z ⟨_, rfl, rfl⟩ (fun w d28 => ?_)
        replace z : Zs amb _ _ := z.go [g_ways_] amb []
        exact (ctl_rt (run_ret hw)) _ _ _ (es14.trans es24) z (show Z.D K Ho _ (some t26.2) from d28)
      · refine y_nxS ?_
        refine l_asg (fun v => [_, _, some v, _]) (fun _ => rfl) ?_
        refine y_call ?_
        refine y_cons ?_
        refine y_var rfl ?_
        refine y_cons ?_
        refine y_var rfl ?_
        refine y_nil ?_
        refine ⟨(g_ways_ ++ amb), _, _, _, _, _, rfl, z, (LV.sub d_some_ (mgS mgE)), ⟨_, d_ways_, mg0⟩, ?_⟩
        refine run_mono3 hw (fun t29 hw v g31 H Ho e z d30 => ?_)
        replace d_note_ := D.mo d_note_ e
        replace d_some_ := LV.mo d_some_ e
        replace d_ways_ := OD.mo d_ways_ e
        have es32 := es24.trans e
        replace z : Zs (g31 ++ amb) _ _ := z.go [g31, g_ways_] amb [0]
        refine d_o hw z d30 (fun ways_ v_ways_ g_ways_ z d_ways_ hw => ?_)
        exact ctl_nx (run_ret hw) _ _ _ es32 ⟨_, _, _, rfl, z, d_ways_⟩
    intro s σ H Ho e hI hw
    obtain ⟨ways_, rfl⟩ : ∃ q, q = s := ⟨_, rfl⟩
    obtain ⟨v_ways_, g_ways_, y_step_, rfl, z, d_ways_⟩ := hI
    have es33 := es11.trans e
    refine y_ret ?_
    refine y_c ?_
    replace z : Zs amb _ _ := z.go [g_ways_] amb []
    exact (run_ret hw) _ _ _ es33 z (show Z.D K Ho V.non (none : (Option (List (P4 Int Int Int Int)))) from Dq.non)
def sp_ring (K : PySem.W.Frag) (cl : Nat → Addr) : Sp := fun vs H Q E => ∃ (amb : Grp) (Ho : Hp) (v0 : V) (x0 : ((List Int) × (List (P4 Int Int Int Int)))), vs = [v0] ∧ Zs amb H Ho ∧ LP K amb Ho v0 x0 ∧ (m_ring x0).run fun r => ∀ v H' Ho', Same Ho Ho' → Zs amb H' Ho' → Z.D K Ho' v r → Q v H'
abbrev s_ring : Stmt := topS 13
theorem sc_ring : FnScope ["record", "found", "note", "row"] ["record"] (defScope s_ring) := ⟨rfl, rfl, rfl, by decide +kernel, rfl, by decide +kernel, by decide +kernel⟩
theorem ok_ring {f : Addr} {fd : FuncData} (F : Fun K "ring" "ring" s_ring f fd) {f_need_record : Addr} {fd_need_record : FuncData} (c_need_record : Cal P w K mg base CX0 "need_record" ["record"] 2 (sp_need_record K cl) f_need_record fd_need_record) {f_ring_from : Addr} {fd_ring_from : FuncData} (c_ring_from : Cal P w K mg base CX0 "ring_from" ["some", "note"] 2 (sp_ring_from K cl) f_ring_from fd_ring_from) (m_min : mg "min" = none) (m_len : mg "len" = none) :
    FnOk P w K mg base CX0 3 f fd ["record"] (sp_ring K cl) := by
  refine F.ok sc_ring (fun vs H Q E h => ?_) (fun cdv A outer s H vs Q E hr h => ?_)
  · obtain ⟨amb, Ho, v_record_, record_, rfl, _⟩ := h
    rfl
  · obtain ⟨amb, Ho, v_record_, record_, rfl, z, d_record_, hw⟩ := h
    refine ⟨_, pss_cons (ps_expr (pe_call c_need_record.ok (hr.mono (by decide)) (by rfl) c_need_record.g c_need_record.kp c_need_record.b .nil pass0 (pa_cons (pv 0) (pa_nil)))) (pss_cons (ps_setLc (i := 1) (own := [("note", 2)]) rfl sc_ring.nd rfl rfl (sw_true rfl rfl rfl (by decide +kernel)) (zpi_list (K := K) rfl (pe_ix (zix_tup (K := K) rfl) (pv 0) (pe_int) (fun _ _ => rfl))) (blkOk_by (N := ["record", "found", "note", "row"]) (sc := defScope s_ring) (by decide +kernel)) (fun _ _ _ _ _ => pg_name (i := 2) sc_ring.nd rfl (Or.inl rfl)) (fun _ _ _ _ _ => pts_nil) (fun _ _ _ _ _ => pe_call c_ring_from.ok (hr.mono (by decide)) (by rfl) c_ring_from.g c_ring_from.kp c_ring_from.b .nil pass0 (pa_cons (pe_ix (zix_tup (K := K) rfl) (pv 0) (pe_int) (fun _ _ => rfl)) (pa_cons (pv 2) (pa_nil))))) (pss_cons (ps_ret (pe_minLen (K := K) rfl rfl (by rfl) m_min (by rfl) m_len (pa_cons (pe_lc (own := [("row", 3)]) rfl sc_ring.nd (zpi_list (K := K) rfl (pv 1)) (blkOk_by (N := ["record", "found", "note", "row"]) (sc := defScope s_ring) (by decide +kernel)) (fun _ _ _ _ _ => pg_name (i := 3) sc_ring.nd rfl (Or.inl rfl)) (fun _ _ _ _ _ => pts_one (pt_cmpR (op_notN) (pv 3) (pe_non) (nomark _))) (fun _ _ _ _ _ => pv 3)) (pa_nil)) pe_non)) (pss_nil))), ?_⟩
    obtain ⟨v_record__0_, v_record__1_, t_record_, d_record__0_, d_record__1_⟩ := d_record_
    refine h_nmG (P := fun x => LV K amb Ho v_record__0_ x) hw d_record__0_ (fun record__0_ d_record__0_ hw => ?_)
    refine h_nmG (P := fun x => LV K amb Ho v_record__1_ x) hw d_record__1_ (fun record__1_ d_record__1_ hw => ?_)
    refine y_drop ?_
    refine y_call ?_
    refine y_cons ?_
    refine y_var rfl ?_
    refine y_nil ?_
    refine ⟨amb, _, _, _, rfl, z, (LP.of2 t_record_ (LV.sub d_record__0_ mgE) (LV.sub d_record__1_ mgE)), ?_⟩
    refine run_mono3 hw (fun t1 hw v H Ho e z d2 => ?_)
    replace t_record_ := TupAt.mo t_record_ e
    replace d_record__0_ := LV.mo d_record__0_ e
    replace d_record__1_ := LV.mo d_record__1_ e
    have es4 := (Same.refl _).trans e
    cases d2
    refine l_asg (fun v => [_, some v, _, _]) (fun _ => rfl) ?_
    refine y_lc ?_
    refine k_iList ?_
    refine y_op ?_
    refine y_var rfl ?_
    refine y_c ?_
    refine p_ix1 t_record_ z ?_
    refine k_srcL (r0 := amb) (LV.sub d_record__1_ mgE) mgE z (fun J T => ?_)
    refine y_lcG z mgE T hw (fun r5 note_ v_note_ H Ho N N' e z d_note_ hw => ?_) (fun t14 H Ho e hw p11 ws12 z d13 => ?_)
    · replace z : Zs ([r5] ++ amb) H Ho := z
      replace t_record_ := TupAt.mo t_record_ e
      replace d_record__0_ := LV.mo d_record__0_ e
      replace d_record__1_ := LV.mo d_record__1_ e
      have es6 := es4.trans e
      refine y_gname (σ' := [some v_record_, none, some v_note_, none]) rfl ?_
      refine ⟨rfl, ?_⟩
      refine y_yes (w_t ?_)
      replace hw := run_itT (run_bret hw) rfl
      refine y_call ?_
      refine y_cons ?_
      refine y_op ?_
      refine y_var rfl ?_
      refine y_c ?_
      refine p_ix1 t_record_ z ?_
      refine y_cons ?_
      refine y_var rfl ?_
      refine y_nil ?_
      refine ⟨([r5] ++ amb), _, _, _, _, _, rfl, z, (LV.sub d_record__1_ (mgS mgE)), d_note_, ?_⟩
      refine run_mono3 hw (fun t7 hw v H Ho e z d8 => ?_)
      replace d_note_ := D.mo d_note_ e
      replace t_record_ := TupAt.mo t_record_ e
      replace d_record__0_ := LV.mo d_record__0_ e
      replace d_record__1_ := LV.mo d_record__1_ e
      have es10 := (Same.refl _).trans e
      exact (run_ret hw) _ _ _ es10 z d8
    replace t_record_ := TupAt.mo t_record_ e
    replace d_record__0_ := LV.mo d_record__0_ e
    replace d_record__1_ := LV.mo d_record__1_ e
    have es15 := es4.trans e
    replace z : Zs ([(p11, HO.lst ws12)] ++ amb) H Ho := z
    have o16 := OL.mk (p := p11) d13
    refine l_fr o16 z (fun Ho e z d17 => ?_)
    replace t_record_ := TupAt.mo t_record_ e
    replace d_record__0_ := LV.mo d_record__0_ e
    replace d_record__1_ := LV.mo d_record__1_ e
    have es18 := es15.trans e
    refine l_d (K := K) (Ho := Ho) hw d17 (fun found_ v_found_ d_found_ hw => ?_)
    refine y_ret ?_
    refine y_mln ?_
    refine y_cons ?_
    refine y_lc ?_
    refine k_iList ?_
    refine y_var rfl ?_
    refine k_srcL (r0 := ([] : Grp)) (LV.of d_found_) mgN z (fun J T => ?_)
    refine y_lcG z mgN T hw (fun r19 row_ v_row_ H Ho N N' e z d_row_ hw => ?_) (fun t26 H Ho e hw p23 ws24 z d25 => ?_)
    · replace z : Zs ([r19] ++ amb) H Ho := z
      replace d_found_ := D.mo d_found_ e
      replace t_record_ := TupAt.mo t_record_ e
      replace d_record__0_ := LV.mo d_record__0_ e
      replace d_record__1_ := LV.mo d_record__1_ e
      have es20 := es18.trans e
      refine y_gname (σ' := [some v_record_, some v_found_, none, some v_row_]) rfl ?_
      refine ⟨rfl, ?_⟩
      refine y_test ?_
      refine y_op ?_
      refine y_var rfl ?_
      refine y_c ?_
      refine ⟨rfl, ?_⟩
      rw [dec_non d_row_ hw.1, not_isNone]
      replace hw := (run_gd hw).2
      refine ⟨_, rfl, ?_⟩
      refine w_two (fun hb => ?_) (fun hb => ?_)
      · replace hw := run_itT (run_ret hw) hb
        refine y_var rfl ?_
        refine y_get d_row_ hw (fun t21 d22 hw => ?_)
        exact (run_ret hw) _ _ _ (Same.refl _) z d22
      · exact run_itF (run_ret hw) hb _ _ (Same.refl _) z
    replace d_found_ := D.mo d_found_ e
    replace t_record_ := TupAt.mo t_record_ e
    replace d_record__0_ := LV.mo d_record__0_ e
    replace d_record__1_ := LV.mo d_record__1_ e
    have es27 := es18.trans e
    replace z : Zs ([(p23, HO.lst ws24)] ++ amb) H Ho := z
    have o28 := OL.mk (p := p23) d25
    refine y_nil ?_
    refine y_minLen (OL.lv o28 mg0) z (fun u29 d30 => ?_)
    replace z : Zs amb _ _ := z.go [[(p23, HO.lst ws24)]] amb []
    exact (run_ret hw) _ _ _ es27 z d30
def sp_ring_shows (K : PySem.W.Frag) (cl : Nat → Addr) : Sp := fun vs H Q E => ∃ (amb : Grp) (Ho : Hp) (v0 : V) (x0 : ((List Int) × (List (P4 Int Int Int Int)))) (v1 : V) (x1 : (List (P4 Int Int Int Int))), vs = [v0, v1] ∧ Zs amb H Ho ∧ LP K amb Ho v0 x0 ∧ LV K amb Ho v1 x1 ∧ (m_ring_shows x0 x1).run fun r => ∀ v H' Ho', Same Ho Ho' → Zs amb H' Ho' → Z.D K Ho' v r → Q v H'
abbrev s_ring_shows : Stmt := topS 14
theorem sc_ring_shows : FnScope ["record", "some", "at", "note", "later"] ["record", "some"] (defScope s_ring_shows) := ⟨rfl, rfl, rfl, by decide +kernel, rfl, by decide +kernel, by decide +kernel⟩
theorem ok_ring_shows {f : Addr} {fd : FuncData} (F : Fun K "ring_shows" "ring_shows" s_ring_shows f fd) {f_need_record : Addr} {fd_need_record : FuncData} (c_need_record : Cal P w K mg base CX0 "need_record" ["record"] 2 (sp_need_record K cl) f_need_record fd_need_record) (m_len : mg "len" = none) (m_range : mg "range" = none) :
    FnOk P w K mg base CX0 3 f fd ["record", "some"] (sp_ring_shows K cl) := by
  refine F.ok sc_ring_shows (fun vs H Q E h => ?_) (fun cdv A outer s H vs Q E hr h => ?_)
  · obtain ⟨amb, Ho, v_record_, record_, v_some_, some_, rfl, _⟩ := h
    rfl
  · obtain ⟨amb, Ho, v_record_, record_, v_some_, some_, rfl, z, d_record_, d_some_, hw⟩ := h
    refine ⟨_, pss_cons (ps_expr (pe_call c_need_record.ok (hr.mono (by decide)) (by rfl) c_need_record.g c_need_record.kp c_need_record.b .nil pass0 (pa_cons (pv 0) (pa_nil)))) (pss_cons (ps_for PassesOwn.never rfl (pi_range1 (by rfl) m_range (pa_cons (pe_callB (zlen (K := K) rfl) (by rfl) m_len (by decide +kernel) (pa_cons (pv 1) (pa_nil))) (pa_nil))) (pg_name (i := 2) sc_ring_shows.nd rfl (Or.inl rfl)) (pss_cons (ps_set (i := 3) sc_ring_shows.nd rfl (Or.inl rfl) (pe_ix (zix_list (K := K) rfl) (pv 1) (pv 2) (fun _ _ => rfl))) (pss_cons (ps_set (i := 4) sc_ring_shows.nd rfl (Or.inl rfl) (pe_ix (zix_list (K := K) rfl) (pv 1) (pe_op op_mod (pe_op op_add (pv 2) (pe_int)) (pe_callB (zlen (K := K) rfl) (by rfl) m_len (by decide +kernel) (pa_cons (pv 1) (pa_nil)))) (fun _ _ => rfl))) (pss_cons (ps_if (PW.pt (pw_or (pt_cmpR (zop_notInD (K := K) rfl (room65 hr)) (pv 3) (pe_ix (zix_tup (K := K) rfl) (pv 0) (pe_int) (fun _ _ => rfl)) rfl) (pw_or (pt_cmpR (op_ne) (pe_ix (zix_tup (K := K) rfl) (pv 3) (pe_int) (fun _ _ => rfl)) (pe_ix (zix_tup (K := K) rfl) (pv 4) (pe_int) (fun _ _ => rfl)) (nomark _)) (pw_or1 (pt_cmpR (op_gt) (pe_ix (zix_tup (K := K) rfl) (pv 3) (pe_int) (fun _ _ => rfl)) (pe_ix (zix_tup (K := K) rfl) (pv 4) (pe_int) (fun _ _ => rfl)) (nomark _)))))) (pss_cons (ps_ret (pe_bl)) (pss_nil)) (pss_nil)) (pss_nil))))) (pss_cons (ps_ret (pe_cmpR (op_gt) (pe_callB (zlen (K := K) rfl) (by rfl) m_len (by decide +kernel) (pa_cons (pv 1) (pa_nil))) (pe_int) (nomark _))) (pss_nil))), ?_⟩
    obtain ⟨v_record__0_, v_record__1_, t_record_, d_record__0_, d_record__1_⟩ := d_record_
    refine h_nmG (P := fun x => LV K amb Ho v_record__0_ x) hw d_record__0_ (fun record__0_ d_record__0_ hw => ?_)
    refine h_nmG (P := fun x => LV K amb Ho v_record__1_ x) hw d_record__1_ (fun record__1_ d_record__1_ hw => ?_)
    refine y_drop ?_
    refine y_call ?_
    refine y_cons ?_
    refine y_var rfl ?_
    refine y_nil ?_
    refine ⟨amb, _, _, _, rfl, z, (LP.of2 t_record_ (LV.sub d_record__0_ mgE) (LV.sub d_record__1_ mgE)), ?_⟩
    refine run_mono3 hw (fun t1 hw v H Ho e z d2 => ?_)
    replace t_record_ := TupAt.mo t_record_ e
    replace d_record__0_ := LV.mo d_record__0_ e
    replace d_record__1_ := LV.mo d_record__1_ e
    replace d_some_ := LV.mo d_some_ e
    have es4 := (Same.refl _).trans e
    cases d2
    refine y_for ?_
    refine k_iR1 ?_
    refine y_cons ?_
    refine y_cb ?_
    refine y_cons ?_
    refine y_var rfl ?_
    refine y_nil ?_
    refine y_len (LV.sub d_some_ mgE) z ?_
    refine y_nil ?_
    refine k_srcR1 (K := K) (Ho := Ho) hw.1 (fun J T => ?_)
    replace hw := (run_gd hw).2
    refine y_forC T hw (fun (s : Unit) (σ : L2.St) (H Ho : Hp) => ∃ (y_at_ : Option V) (y_note_ : Option V) (y_later_ : Option V), σ = [some v_record_, some v_some_, y_at_, y_note_, y_later_] ∧ Zs amb H Ho) ⟨_, _, _, rfl, z⟩ ?_ ?_ ?_ ?_
    · intro s σ H Ho hI
      obtain ⟨y_at_, y_note_, y_later_, rfl, z⟩ := hI
      exact ⟨_, z, mgN⟩
    · intro s σ H Ho H2 Ho2 hI e t
      obtain ⟨y_at_, y_note_, y_later_, rfl, z⟩ := hI
      exact ⟨_, _, _, rfl, t _ z⟩
    · intro at_ v_at_ s σ H Ho N B e hI d_at_ hw
      obtain ⟨y_at_, y_note_, y_later_, rfl, z⟩ := hI
      replace t_record_ := TupAt.mo t_record_ e
      replace d_record__0_ := LV.mo d_record__0_ e
      replace d_record__1_ := LV.mo d_record__1_ e
      replace d_some_ := LV.mo d_some_ e
      have es5 := es4.trans e
      obtain rfl := d_int d_at_
      refine y_gname (σ' := [some v_record_, some v_some_, some (V.int at_), y_note_, y_later_]) rfl ?_
      refine l_asg (fun v => [_, _, _, some v, _]) (fun _ => rfl) ?_
      refine y_op ?_
      refine y_var rfl ?_
      refine y_var rfl ?_
      refine y_ixL (LV.sub d_some_ mgE) z hw (fun t6 w d7 hw => ?_)
      refine l_d (K := K) (Ho := Ho) hw d7 (fun note_ v_note_ d_note_ hw => ?_)
      refine l_asg (fun v => [_, _, _, _, some v]) (fun _ => rfl) ?_
      refine y_op ?_
      refine y_var rfl ?_
      refine y_op ?_
      refine y_op ?_
      refine y_var rfl ?_
      refine y_c ?_
      refine y_i0 ?_
      refine y_cb ?_
      refine y_cons ?_
      refine y_var rfl ?_
      refine y_nil ?_
      refine y_len (LV.sub d_some_ mgE) z ?_
      refine y_ig hw.1 ?_
      replace hw := (run_gd hw).2
      refine y_ixL (LV.sub d_some_ mgE) z hw (fun t8 w d9 hw => ?_)
      refine l_d (K := K) (Ho := Ho) hw d9 (fun later_ v_later_ d_later_ hw => ?_)
      refine y_ifS ?_
      refine y_or ?_
      refine y_test ?_
      refine y_op ?_
      refine y_var rfl ?_
      refine y_op ?_
      refine y_var rfl ?_
      refine y_c ?_
      refine p_ix1 t_record_ z ?_
      refine y_notInD (D.mo d_note_ z.le) (LV.dp (LV.sub d_record__1_ mgE) z) hw.1 ?_
      replace hw := (run_gd hw).2
      refine ⟨_, rfl, ?_⟩
      refine w_orP (a := (!inD note_ record__1_)) ((!decide (note_.c = later_.a)) || (decide (note_.d > later_.b))) (fun hb hq => ?_) ?_
      · refine y_or ?_
        refine y_test ?_
        refine y_op ?_
        refine y_op ?_
        refine y_var rfl ?_
        refine y_c ?_
        refine y_ixT (y := note_.c) d_note_ z ⟨_, rfl, rfl⟩ (fun w d10 => ?_)
        first | obtain rfl := d_int d10 | cases d_int d10
        refine y_op ?_
        refine y_var rfl ?_
        refine y_c ?_
        refine y_ixT (y := later_.a) d_later_ z ⟨_, rfl, rfl⟩ (fun w d11 => ?_)
        first | obtain rfl := d_int d11 | cases d_int d11
        refine y_nei ?_
        refine ⟨_, rfl, ?_⟩
        refine w_orP (a := (!decide (note_.c = later_.a))) (decide (note_.d > later_.b)) (fun hb hq => ?_) ?_
        · refine y_test ?_
          refine y_op ?_
          refine y_op ?_
          refine y_var rfl ?_
          refine y_c ?_
          refine y_ixT (y := note_.d) d_note_ z ⟨_, rfl, rfl⟩ (fun w d12 => ?_)
          first | obtain rfl := d_int d12 | cases d_int d12
          refine y_op ?_
          refine y_var rfl ?_
          refine y_c ?_
          refine y_ixT (y := later_.b) d_later_ z ⟨_, rfl, rfl⟩ (fun w d13 => ?_)
          first | obtain rfl := d_int d13 | cases d_int d13
          refine y_i0 ?_
          refine ⟨_, rfl, ?_⟩
          exact hq
        exact hq
      refine y_cases hw (fun hb hw => ?_) (fun hb hw => ?_)
      · refine y_ret ?_
        refine y_c ?_
        exact (ctl_rt (run_ret hw)) _ _ _ (es5.trans (Same.refl _)) z (Dq.bl _)
      · refine y_nxS ?_
        exact ctl_nx (run_ret hw) _ _ _ (Same.refl _) ⟨_, _, _, rfl, z⟩
    intro s σ H Ho e hI hw
    obtain ⟨y_at_, y_note_, y_later_, rfl, z⟩ := hI
    replace t_record_ := TupAt.mo t_record_ e
    replace d_record__0_ := LV.mo d_record__0_ e
    replace d_record__1_ := LV.mo d_record__1_ e
    replace d_some_ := LV.mo d_some_ e
    have es14 := es4.trans e
    refine y_ret ?_
    refine y_op ?_
    refine y_cb ?_
    refine y_cons ?_
    refine y_var rfl ?_
    refine y_nil ?_
    refine y_len (LV.sub d_some_ mgE) z ?_
    refine y_c ?_
    refine y_i0 ?_
    exact (run_ret hw) _ _ _ es14 z (Dq.bl _)
def sp_law_bag (K : PySem.W.Frag) (cl : Nat → Addr) : Sp := fun vs H Q E => ∃ (amb : Grp) (Ho : Hp) (v0 : V) (x0 : (List Int)), vs = [v0] ∧ Zs amb H Ho ∧ LVg K amb Ho v0 x0 ∧ (m_law_bag x0).run fun r => ∀ v g H' Ho', Same Ho Ho' → Zs (g ++ amb) H' Ho' → OH K Ho' v r g → Q v H'
abbrev s_law_bag : Stmt := topS 16
theorem sc_law_bag : FnScope ["script", "total", "cell"] ["script"] (defScope s_law_bag) := ⟨rfl, rfl, rfl, by decide +kernel, rfl, by decide +kernel, by decide +kernel⟩
theorem ok_law_bag {f : Addr} {fd : FuncData} (F : Fun K "_law_bag" "_law_bag" s_law_bag f fd) (m_list : mg "list" = none) :
    FnOk P w K mg base CX0 1 f fd ["script"] (sp_law_bag K cl) := by
  refine F.ok sc_law_bag (fun vs H Q E h => ?_) (fun cdv A outer s H vs Q E hr h => ?_)
  · obtain ⟨amb, Ho, v_script_, script_, rfl, _⟩ := h
    rfl
  · obtain ⟨amb, Ho, v_script_, script_, rfl, z, d_script_, hw⟩ := h
    refine ⟨_, pss_cons (ps_set (i := 1) sc_law_bag.nd rfl (Or.inl rfl) (pe_int)) (pss_cons (ps_for PassesOwn.never rfl (zpi_list (K := K) rfl (pv 0)) (pg_name (i := 2) sc_law_bag.nd rfl (Or.inl rfl)) (pss_cons (ps_set (i := 1) sc_law_bag.nd rfl (Or.inl rfl) (pe_op op_mod (pe_op op_add (pe_op op_add (pe_op op_mulW (pv 1) (pe_int)) (pe_op op_mod (pv 2) (pe_int))) (pe_int)) (pe_int))) (pss_nil))) (pss_cons (ps_ret (pe_lst (pa_cons (pe_callTy (zlist (K := K) rfl) (by rfl) m_list (by decide +kernel) (pa_cons (pv 0) (pa_nil))) (pa_cons (pe_int) (pa_cons (pe_int) (pa_cons (pe_int) (pa_cons (pv 1) (pa_nil)))))))) (pss_nil))), ?_⟩
    refine l_asg (fun v => [_, some v, _]) (fun _ => rfl) ?_
    refine y_c ?_
    refine l_i hw (fun total_ hw => ?_)
    refine y_for ?_
    refine k_iList ?_
    refine y_var rfl ?_
    refine k_srcLG d_script_ mgE z (fun J T => ?_)
    refine y_forL T hw (fun (s : Int) (σ : L2.St) (H Ho : Hp) => ∃ (y_cell_ : Option V), σ = [some v_script_, some (V.int s), y_cell_] ∧ Zs amb H Ho) ⟨_, rfl, z⟩ ?_ ?_ ?_ ?_
    · intro s σ H Ho hI
      obtain ⟨y_cell_, rfl, z⟩ := hI
      exact ⟨_, z, mgE⟩
    · intro s σ H Ho H2 Ho2 hI e t
      obtain ⟨y_cell_, rfl, z⟩ := hI
      exact ⟨_, rfl, t _ z⟩
    · intro cell_ v_cell_ s σ H Ho N e hI d_cell_ hw
      obtain ⟨total_, rfl⟩ : ∃ q, q = s := ⟨_, rfl⟩
      obtain ⟨y_cell_, rfl, z⟩ := hI
      replace d_script_ := LVg.mo d_script_ e
      have es1 := (Same.refl _).trans e
      obtain rfl := d_int d_cell_
      refine y_gname (σ' := [some v_script_, some (V.int total_), some (V.int cell_)]) rfl ?_
      refine l_asg (fun v => [_, some v, _]) (fun _ => rfl) ?_
      refine y_op ?_
      refine y_op ?_
      refine y_op ?_
      refine y_op ?_
      refine y_var rfl ?_
      refine y_c ?_
      refine y_ig hw.1 ?_
      replace hw := (run_gd hw).2
      refine y_op ?_
      refine y_var rfl ?_
      refine y_c ?_
      refine y_ig (by decide) ?_
      refine y_i0 ?_
      refine y_c ?_
      refine y_i0 ?_
      refine y_c ?_
      refine y_ig (by decide) ?_
      refine l_i hw (fun total_ hw => ?_)
      exact (run_ret hw) _ _ _ (Same.refl _) ⟨_, rfl, z⟩
    intro s σ H Ho e hI hw
    obtain ⟨total_, rfl⟩ : ∃ q, q = s := ⟨_, rfl⟩
    obtain ⟨y_cell_, rfl, z⟩ := hI
    replace d_script_ := LVg.mo d_script_ e
    have es2 := (Same.refl _).trans e
    refine y_ret ?_
    refine k_lst ?_
    refine y_cons ?_
    refine y_cb ?_
    refine y_cons ?_
    refine y_var rfl ?_
    refine y_nil ?_
    refine y_listG (LVg.sub d_script_ mgE) z (fun H p3 ws4 z d5 => ?_)
    replace z : Zs ([(p3, HO.lst ws4)] ++ amb) H Ho := z
    have o6 := OL.mk (p := p3) d5
    refine y_cons ?_
    refine y_c ?_
    refine y_cons ?_
    refine y_c ?_
    refine y_cons ?_
    refine y_c ?_
    refine y_cons ?_
    refine y_var rfl ?_
    refine y_nil ?_
    refine l_fr o6 z (fun Ho e z d7 => ?_)
    replace d_script_ := LVg.mo d_script_ e
    have es8 := es2.trans e
    refine k_hlst (K := K) (x := (⟨script_, (0 : Int), (0 : Int), (0 : Int), total_⟩ : (H5 (List Int) Int Int Int Int))) z (DqAll.cons d7 (DqAll.cons (Dq.int _) (DqAll.cons (Dq.int _) (DqAll.cons (Dq.int _) (DqAll.cons (Dq.int _) DqAll.nil))))) (by show 5 ≤ sizeLine; decide) (fun H p11 g9 z o10 => ?_)
    exact (run_ret hw) _ _ _ _ es8 z o10
def sp_law_stir (K : PySem.W.Frag) (cl : Nat → Addr) : Sp := fun vs H Q E => ∃ (amb : Grp) (Ho : Hp) (v0 : V) (x0 : Int) (v1 : V) (x1 : Int), vs = [v0, v1] ∧ Zs amb H Ho ∧ Z.D K Ho v0 x0 ∧ Z.D K Ho v1 x1 ∧ (m_law_stir x0 x1).run fun r => ∀ v H' Ho', Same Ho Ho' → Zs amb H' Ho' → Z.D K Ho' v r → Q v H'
abbrev s_law_stir : Stmt := topS 17
theorem sc_law_stir : FnScope ["number", "place", "one", "two"] ["number", "place"] (defScope s_law_stir) := ⟨rfl, rfl, rfl, by decide +kernel, rfl, by decide +kernel, by decide +kernel⟩
theorem ok_law_stir {f : Addr} {fd : FuncData} (F : Fun K "_law_stir" "_law_stir" s_law_stir f fd) :
    FnOk P w K mg base CX0 1 f fd ["number", "place"] (sp_law_stir K cl) := by
  refine F.ok sc_law_stir (fun vs H Q E h => ?_) (fun cdv A outer s H vs Q E hr h => ?_)
  · obtain ⟨amb, Ho, v_number_, number_, v_place_, place_, rfl, _⟩ := h
    rfl
  · obtain ⟨amb, Ho, v_number_, number_, v_place_, place_, rfl, z, d_number_, d_place_, hw⟩ := h
    refine ⟨_, pss_cons (ps_set (i := 2) sc_law_stir.nd rfl (Or.inl rfl) (pe_op op_mod (pe_op op_add (pe_op op_add (pe_op op_mulW (pv 0) (pe_int)) (pe_op op_mulW (pv 1) (pe_int))) (pe_int)) (pe_int))) (pss_cons (ps_set (i := 3) sc_law_stir.nd rfl (Or.inl rfl) (pe_op op_mod (pe_op op_mulW (pv 2) (pv 2)) (pe_int))) (pss_cons (ps_ret (pe_op op_fdivW (pe_op op_mod (pe_op op_add (pe_op op_add (pe_op op_mulW (pv 3) (pe_int)) (pe_op op_mulW (pe_op op_mulW (pv 1) (pv 1)) (pe_int))) (pe_op op_fdivW (pv 2) (pe_int))) (pe_int)) (pe_int))) (pss_nil))), ?_⟩
    obtain rfl := d_int d_number_
    obtain rfl := d_int d_place_
    refine l_asg (fun v => [_, _, some v, _]) (fun _ => rfl) ?_
    refine y_op ?_
    refine y_op ?_
    refine y_op ?_
    refine y_op ?_
    refine y_var rfl ?_
    refine y_c ?_
    refine y_ig hw.1 ?_
    replace hw := (run_gd hw).2
    refine y_op ?_
    refine y_var rfl ?_
    refine y_c ?_
    refine y_ig hw.1 ?_
    replace hw := (run_gd hw).2
    refine y_i0 ?_
    refine y_c ?_
    refine y_i0 ?_
    refine y_c ?_
    refine y_ig (by decide) ?_
    refine l_i hw (fun one_ hw => ?_)
    refine l_asg (fun v => [_, _, _, some v]) (fun _ => rfl) ?_
    refine y_op ?_
    refine y_op ?_
    refine y_var rfl ?_
    refine y_var rfl ?_
    refine y_ig hw.1 ?_
    replace hw := (run_gd hw).2
    refine y_c ?_
    refine y_ig (by decide) ?_
    refine l_i hw (fun two_ hw => ?_)
    refine y_ret ?_
    refine y_op ?_
    refine y_op ?_
    refine y_op ?_
    refine y_op ?_
    refine y_op ?_
    refine y_var rfl ?_
    refine y_c ?_
    refine y_ig hw.1 ?_
    replace hw := (run_gd hw).2
    refine y_op ?_
    refine y_op ?_
    refine y_var rfl ?_
    refine y_var rfl ?_
    refine y_ig hw.1 ?_
    replace hw := (run_gd hw).2
    refine y_c ?_
    refine y_ig hw.1 ?_
    replace hw := (run_gd hw).2
    refine y_i0 ?_
    refine y_op ?_
    refine y_var rfl ?_
    refine y_c ?_
    refine y_ig hw.1 ?_
    replace hw := (run_gd hw).2
    refine y_i0 ?_
    refine y_c ?_
    refine y_ig (by decide) ?_
    refine y_c ?_
    refine y_ig hw.1 ?_
    replace hw := (run_gd hw).2
    exact (run_ret hw) _ _ _ (Same.refl _) z (Dq.int _)
def sp_law_draw (K : PySem.W.Frag) (cl : Nat → Addr) : Sp := fun vs H Q E => ∃ (amb : Grp) (Ho : Hp) (v0 : V) (x0 : (H5 (List Int) Int Int Int Int)) (g0 : Grp) (v1 : V) (x1 : Int), vs = [v0, v1] ∧ Zs (g0 ++ amb) H Ho ∧ OH K Ho v0 x0 g0 ∧ Z.D K Ho v1 x1 ∧ (m_law_draw x0 x1).run fun r => ∀ v h0 H' Ho', Same Ho Ho' → Zs (h0 ++ amb) H' Ho' → Z.D K Ho' v r.1 → OH K Ho' v0 r.2 h0 → Q v H'
abbrev s_law_draw : Stmt := topS 18
theorem sc_law_draw : FnScope ["bag", "many", "cell", "found"] ["bag", "many"] (defScope s_law_draw) := ⟨rfl, rfl, rfl, by decide +kernel, rfl, by decide +kernel, by decide +kernel⟩
theorem ok_law_draw {f : Addr} {fd : FuncData} (F : Fun K "_law_draw" "_law_draw" s_law_draw f fd) {f_law_stir : Addr} {fd_law_stir : FuncData} (c_law_stir : Cal P w K mg base CX0 "_law_stir" ["number", "place"] 1 (sp_law_stir K cl) f_law_stir fd_law_stir) (m_len : mg "len" = none) :
    FnOk P w K mg base CX0 2 f fd ["bag", "many"] (sp_law_draw K cl) := by
  refine F.ok sc_law_draw (fun vs H Q E h => ?_) (fun cdv A outer s H vs Q E hr h => ?_)
  · obtain ⟨amb, Ho, v_bag_, bag_, g_bag_, v_many_, many_, rfl, _⟩ := h
    rfl
  · obtain ⟨amb, Ho, v_bag_, bag_, g_bag_, v_many_, many_, rfl, z, d_bag_, d_many_, hw⟩ := h
    refine ⟨_, pss_cons (ps_if (pt_cmpR (op_eq) (pv 1) (pe_int) (nomark _)) (pss_cons (ps_ret (pe_int)) (pss_nil)) (pss_nil)) (pss_cons (ps_asg (pe_op op_add (pe_ix (zix_list (K := K) rfl) (pv 0) (pe_int) (fun _ _ => rfl)) (pe_int)) (pg_sub (pv 0) (pe_int) set_list)) (pss_cons (ps_if (PW.pt (pw_and (pt_cmpR (op_lt) (pe_ix (zix_list (K := K) rfl) (pv 0) (pe_int) (fun _ _ => rfl)) (pe_int) (nomark _)) (pw_and1 (pt_cmpR (op_eq) (pe_ix (zix_list (K := K) rfl) (pv 0) (pe_int) (fun _ _ => rfl)) (pe_callB (zlen (K := K) rfl) (by rfl) m_len (by decide +kernel) (pa_cons (pe_ix (zix_list (K := K) rfl) (pv 0) (pe_int) (fun _ _ => rfl)) (pa_nil))) (nomark _))))) (pss_cons (ps_ret (pe_op op_mod (pe_call c_law_stir.ok (hr.mono (by decide)) (by rfl) c_law_stir.g c_law_stir.kp c_law_stir.b .nil pass0 (pa_cons (pe_ix (zix_list (K := K) rfl) (pv 0) (pe_int) (fun _ _ => rfl)) (pa_cons (pe_ix (zix_list (K := K) rfl) (pv 0) (pe_int) (fun _ _ => rfl)) (pa_nil)))) (pv 1))) (pss_nil)) (pss_nil)) (pss_cons (ps_if (pt_cmpR (op_lt) (pe_ix (zix_list (K := K) rfl) (pv 0) (pe_int) (fun _ _ => rfl)) (pe_int) (nomark _)) (pss_cons (ps_set (i := 2) sc_law_draw.nd rfl (Or.inl rfl) (pe_ix (zix_list (K := K) rfl) (pe_ix (zix_list (K := K) rfl) (pv 0) (pe_int) (fun _ _ => rfl)) (pe_ix (zix_list (K := K) rfl) (pv 0) (pe_int) (fun _ _ => rfl)) (fun _ _ => rfl))) (pss_cons (ps_asg (pe_op op_add (pe_ix (zix_list (K := K) rfl) (pv 0) (pe_int) (fun _ _ => rfl)) (pe_int)) (pg_sub (pv 0) (pe_int) set_list)) (pss_cons (ps_if (pt_cmpR (op_lt) (pv 2) (pe_op op_pow (pe_int) (pe_int)) (nomark _)) (pss_cons (ps_ret (pe_op op_mod (pe_call c_law_stir.ok (hr.mono (by decide)) (by rfl) c_law_stir.g c_law_stir.kp c_law_stir.b .nil pass0 (pa_cons (pe_op op_mod (pv 2) (pe_int)) (pa_cons (pe_ix (zix_list (K := K) rfl) (pv 0) (pe_int) (fun _ _ => rfl)) (pa_nil)))) (pv 1))) (pss_nil)) (pss_nil)) (pss_cons (ps_asg (pe_op op_sub (pv 2) (pe_op op_pow (pe_int) (pe_int))) (pg_sub (pv 0) (pe_int) set_list)) (pss_nil))))) (pss_nil)) (pss_cons (ps_set (i := 3) sc_law_draw.nd rfl (Or.inl rfl) (pe_op op_mod (pe_ix (zix_list (K := K) rfl) (pv 0) (pe_int) (fun _ _ => rfl)) (pv 1))) (pss_cons (ps_asg (pe_op op_fdivW (pe_ix (zix_list (K := K) rfl) (pv 0) (pe_int) (fun _ _ => rfl)) (pv 1)) (pg_sub (pv 0) (pe_int) set_list)) (pss_cons (ps_ret (pv 3)) (pss_nil))))))), ?_⟩
    obtain rfl := d_int d_many_
    refine y_ifS ?_
    refine y_test ?_
    refine y_op ?_
    refine y_var rfl ?_
    refine y_c ?_
    refine y_eqi ?_
    refine ⟨_, rfl, ?_⟩
    refine y_cases hw (fun hb hw => ?_) (fun hb hw => ?_)
    · refine y_ret ?_
      refine y_c ?_
      exact (run_ret hw) _ _ _ _ (Same.refl _) z (Dq.int _) d_bag_
    · refine y_nxS ?_
      refine y_asgG ?_
      refine y_op ?_
      refine y_op ?_
      refine y_var rfl ?_
      refine y_c ?_
      refine h_ix (y := bag_.d) d_bag_ z rfl (fun w d1 => ?_)
      first | obtain rfl := d_int d1 | cases d_int d1
      refine y_c ?_
      refine y_i0 ?_
      refine y_gsub ?_
      refine y_var rfl ?_
      refine y_c ?_
      refine h_st (y := ({ bag_ with d := (bag_.d + (1 : Int)) } : (H5 (List Int) Int Int Int Int))) z d_bag_ (Dq.int _) rfl rfl (fun g_bag_ H z d_bag_ => ?_)
      refine h_nm hw d_bag_ (fun bag_ d_bag_ hw => ?_)
      refine y_ifS ?_
      refine y_and ?_
      refine y_test ?_
      refine y_op ?_
      refine y_op ?_
      refine y_var rfl ?_
      refine y_c ?_
      refine h_ix (y := bag_.c) d_bag_ z rfl (fun w d2 => ?_)
      first | obtain rfl := d_int d2 | cases d_int d2
      refine y_c ?_
      refine y_i0 ?_
      refine ⟨_, rfl, ?_⟩
      refine w_andJ hw (fun (s : Bool) (v : Bool) (H2 : Hp) => ∃ (Ho2 : Hp), Same Ho Ho2 ∧ Zs (g_bag_ ++ amb) H2 Ho2 ∧ v = s) (fun hb hw => ?_) (fun hb hw => ?_) ?_
      · refine y_test ?_
        refine y_op ?_
        refine y_op ?_
        refine y_var rfl ?_
        refine y_c ?_
        refine h_ix (y := bag_.b) d_bag_ z rfl (fun w d3 => ?_)
        first | obtain rfl := d_int d3 | cases d_int d3
        refine y_cb ?_
        refine y_cons ?_
        refine y_op ?_
        refine y_var rfl ?_
        refine y_c ?_
        refine h_ix (y := bag_.a) d_bag_ z rfl (fun w d4 => ?_)
        refine y_nil ?_
        refine y_len (LV.of d4) z ?_
        refine y_eqi ?_
        refine ⟨_, rfl, ?_⟩
        exact (run_ret hw) _ _ ⟨_, (Same.refl _), z, rfl⟩
      · exact (run_ret hw) _ _ ⟨_, (Same.refl _), z, rfl⟩
      rintro t5 v H ⟨Ho, e, z, rfl⟩ hw
      replace d_bag_ := OH.mo d_bag_ e
      have es8 := (Same.refl _).trans e
      refine y_cases hw (fun hb hw => ?_) (fun hb hw => ?_)
      · refine y_ret ?_
        refine y_op ?_
        refine y_call ?_
        refine y_cons ?_
        refine y_op ?_
        refine y_var rfl ?_
        refine y_c ?_
        refine h_ix (y := bag_.e) d_bag_ z rfl (fun w d9 => ?_)
        first | obtain rfl := d_int d9 | cases d_int d9
        refine y_cons ?_
        refine y_op ?_
        refine y_var rfl ?_
        refine y_c ?_
        refine h_ix (y := bag_.d) d_bag_ z rfl (fun w d10 => ?_)
        first | obtain rfl := d_int d10 | cases d_int d10
        refine y_nil ?_
        refine ⟨(g_bag_ ++ amb), _, _, _, _, _, rfl, z, (Dq.int _), (Dq.int _), ?_⟩
        refine run_mono3 hw (fun t11 hw v H Ho e z d12 => ?_)
        replace d_bag_ := OH.mo d_bag_ e
        have es14 := es8.trans e
        first | obtain rfl := d_int d12 | cases d_int d12
        refine y_var rfl ?_
        refine y_ig hw.1 ?_
        replace hw := (run_gd hw).2
        exact (run_ret hw) _ _ _ _ es14 z (Dq.int _) d_bag_
      · refine y_nxS ?_
        refine y_ifS ?_
        refine y_test ?_
        refine y_op ?_
        refine y_op ?_
        refine y_var rfl ?_
        refine y_c ?_
        refine h_ix (y := bag_.c) d_bag_ z rfl (fun w d15 => ?_)
        first | obtain rfl := d_int d15 | cases d_int d15
        refine y_c ?_
        refine y_i0 ?_
        refine ⟨_, rfl, ?_⟩
        refine w_ifC hw (fun (s : (H5 (List Int) Int Int Int Int)) (σ : L2.St) (H : Hp) => ∃ Ho2, Same Ho Ho2 ∧ (fun (s : (H5 (List Int) Int Int Int Int)) (σ : L2.St) (H Ho : Hp) => ∃ (g_bag_ : Grp) (y_cell_ : Option V), σ = [some v_bag_, some (V.int many_), y_cell_, none] ∧ Zs (g_bag_ ++ amb) H Ho ∧ OH K Ho v_bag_ s g_bag_) s σ H Ho2) (fun hb hw => ?_) (fun hb hw => ?_) ?_
        · refine l_asg (fun v => [_, _, some v, _]) (fun _ => rfl) ?_
          refine y_op ?_
          refine y_op ?_
          refine y_var rfl ?_
          refine y_c ?_
          refine h_ix (y := bag_.a) d_bag_ z rfl (fun w d16 => ?_)
          refine y_op ?_
          refine y_var rfl ?_
          refine y_c ?_
          refine h_ix (y := bag_.b) d_bag_ z rfl (fun w d17 => ?_)
          first | obtain rfl := d_int d17 | cases d_int d17
          refine y_ixL (LV.of d16) z hw (fun t18 w d19 hw => ?_)
          first | obtain rfl := d_int d19 | cases d_int d19
          refine l_i hw (fun cell_ hw => ?_)
          refine y_asgG ?_
          refine y_op ?_
          refine y_op ?_
          refine y_var rfl ?_
          refine y_c ?_
          refine h_ix (y := bag_.b) d_bag_ z rfl (fun w d20 => ?_)
          first | obtain rfl := d_int d20 | cases d_int d20
          refine y_c ?_
          refine y_i0 ?_
          refine y_gsub ?_
          refine y_var rfl ?_
          refine y_c ?_
          refine h_st (y := ({ bag_ with b := (bag_.b + (1 : Int)) } : (H5 (List Int) Int Int Int Int))) z d_bag_ (Dq.int _) rfl rfl (fun g_bag_ H z d_bag_ => ?_)
          refine h_nm hw d_bag_ (fun bag_ d_bag_ hw => ?_)
          refine y_ifS ?_
          refine y_test ?_
          refine y_op ?_
          refine y_var rfl ?_
          refine y_op ?_
          refine y_c ?_
          refine y_c ?_
          refine y_ig hw.1 ?_
          replace hw := (run_gd hw).2
          refine y_i0 ?_
          refine ⟨_, rfl, ?_⟩
          refine y_cases hw (fun hb hw => ?_) (fun hb hw => ?_)
          · refine y_ret ?_
            refine y_op ?_
            refine y_call ?_
            refine y_cons ?_
            refine y_op ?_
            refine y_var rfl ?_
            refine y_c ?_
            refine y_ig (by decide) ?_
            refine y_cons ?_
            refine y_op ?_
            refine y_var rfl ?_
            refine y_c ?_
            refine h_ix (y := bag_.d) d_bag_ z rfl (fun w d21 => ?_)
            first | obtain rfl := d_int d21 | cases d_int d21
            refine y_nil ?_
            refine ⟨(g_bag_ ++ amb), _, _, _, _, _, rfl, z, (Dq.int _), (Dq.int _), ?_⟩
            refine run_mono3 hw (fun t22 hw v H Ho e z d23 => ?_)
            replace d_bag_ := OH.mo d_bag_ e
            have es25 := (Same.refl _).trans e
            first | obtain rfl := d_int d23 | cases d_int d23
            refine y_var rfl ?_
            refine y_ig hw.1 ?_
            replace hw := (run_gd hw).2
            exact (ctl_rt (run_ret hw)) _ _ _ _ (es8.trans es25) z (Dq.int _) d_bag_
          · refine y_nxS ?_
            refine y_asgG ?_
            refine y_op ?_
            refine y_var rfl ?_
            refine y_op ?_
            refine y_c ?_
            refine y_c ?_
            refine y_ig hw.1 ?_
            replace hw := (run_gd hw).2
            refine y_i0 ?_
            refine y_gsub ?_
            refine y_var rfl ?_
            refine y_c ?_
            refine h_st (y := ({ bag_ with c := (cell_ - ((10 : Int) ^ ((18 : Int)).toNat)) } : (H5 (List Int) Int Int Int Int))) z d_bag_ (Dq.int _) rfl rfl (fun g_bag_ H z d_bag_ => ?_)
            refine h_nm hw d_bag_ (fun bag_ d_bag_ hw => ?_)
            exact (ctl_nx (run_ret hw)) _ _ ⟨_, (Same.refl _), ⟨_, _, rfl, z, d_bag_⟩⟩
        · refine y_nxS ?_
          exact (ctl_nx (run_ret hw)) _ _ ⟨_, (Same.refl _), ⟨_, _, rfl, z, d_bag_⟩⟩
        rintro bag_ σ H ⟨Ho, e, g_bag_, y_cell_, rfl, z, d_bag_⟩ hw
        have es26 := es8.trans e
        refine l_asg (fun v => [_, _, _, some v]) (fun _ => rfl) ?_
        refine y_op ?_
        refine y_op ?_
        refine y_var rfl ?_
        refine y_c ?_
        refine h_ix (y := bag_.c) d_bag_ z rfl (fun w d27 => ?_)
        first | obtain rfl := d_int d27 | cases d_int d27
        refine y_var rfl ?_
        refine y_ig hw.1 ?_
        replace hw := (run_gd hw).2
        refine l_i hw (fun found_ hw => ?_)
        refine y_asgG ?_
        refine y_op ?_
        refine y_op ?_
        refine y_var rfl ?_
        refine y_c ?_
        refine h_ix (y := bag_.c) d_bag_ z rfl (fun w d28 => ?_)
        first | obtain rfl := d_int d28 | cases d_int d28
        refine y_var rfl ?_
        refine y_ig hw.1 ?_
        replace hw := (run_gd hw).2
        refine y_gsub ?_
        refine y_var rfl ?_
        refine y_c ?_
        refine h_st (y := ({ bag_ with c := (bag_.c / many_) } : (H5 (List Int) Int Int Int Int))) z d_bag_ (Dq.int _) rfl rfl (fun g_bag_ H z d_bag_ => ?_)
        refine h_nm hw d_bag_ (fun bag_ d_bag_ hw => ?_)
        refine y_ret ?_
        refine y_var rfl ?_
        exact (run_ret hw) _ _ _ _ es26 z (Dq.int _) d_bag_
def sp_law_counts (K : PySem.W.Frag) (cl : Nat → Addr) : Sp := fun vs H Q E => ∃ (amb : Grp) (Ho : Hp) (v0 : V) (x0 : (H5 (List Int) Int Int Int Int)) (g0 : Grp) (v1 : V) (x1 : Int), vs = [v0, v1] ∧ Zs (g0 ++ amb) H Ho ∧ OH K Ho v0 x0 g0 ∧ Z.D K Ho v1 x1 ∧ (m_law_counts x0 x1).run fun r => ∀ v g h0 H' Ho', Same Ho Ho' → Zs (g ++ (h0 ++ amb)) H' Ho' → OL K Ho' v r.1 g → OH K Ho' v0 r.2 h0 → Q v H'
abbrev s_law_counts : Stmt := topS 19
theorem sc_law_counts : FnScope ["bag", "great", "hand", "few", "hands", "top"] ["bag", "great"] (defScope s_law_counts) := ⟨rfl, rfl, rfl, by decide +kernel, rfl, by decide +kernel, by decide +kernel⟩
theorem ok_law_counts {f : Addr} {fd : FuncData} (F : Fun K "_law_counts" "_law_counts" s_law_counts f fd) {f_law_draw : Addr} {fd_law_draw : FuncData} (c_law_draw : Cal P w K mg base CX0 "_law_draw" ["bag", "many"] 2 (sp_law_draw K cl) f_law_draw fd_law_draw) (m_range : mg "range" = none) (m_max : mg "max" = none) :
    FnOk P w K mg base CX0 3 f fd ["bag", "great"] (sp_law_counts K cl) := by
  refine F.ok sc_law_counts (fun vs H Q E h => ?_) (fun cdv A outer s H vs Q E hr h => ?_)
  · obtain ⟨amb, Ho, v_bag_, bag_, g_bag_, v_great_, great_, rfl, _⟩ := h
    rfl
  · obtain ⟨amb, Ho, v_bag_, bag_, g_bag_, v_great_, great_, rfl, z, d_bag_, d_great_, hw⟩ := h
    refine ⟨_, pss_cons (ps_if (pt_cmpR (op_eq) (pv 1) (pe_int) (nomark _)) (pss_cons (ps_ret (pe_lc (own := [("hand", 2)]) rfl sc_law_counts.nd (pi_range1 (by rfl) m_range (pa_cons (pe_ix (zix_list (K := K) rfl) (pe_lst (pa_cons (pe_int) (pa_cons (pe_int) (pa_cons (pe_int) (pa_cons (pe_int) (pa_cons (pe_int) (pa_cons (pe_int) (pa_cons (pe_int) (pa_nil))))))))) (pe_call c_law_draw.ok (hr.mono (by decide)) (by rfl) c_law_draw.g c_law_draw.kp c_law_draw.b .nil pass0 (pa_cons (pv 0) (pa_cons (pe_int) (pa_nil)))) (fun _ _ => rfl)) (pa_nil))) (blkOk_by (N := ["bag", "great", "hand", "few", "hands", "top"]) (sc := defScope s_law_counts) (by decide +kernel)) (fun _ _ _ _ _ => pg_name (i := 2) sc_law_counts.nd rfl (Or.inl rfl)) (fun _ _ _ _ _ => pts_nil) (fun _ _ _ _ _ => pe_call c_law_draw.ok (hr.mono (by decide)) (by rfl) c_law_draw.g c_law_draw.kp c_law_draw.b .nil pass0 (pa_cons (pv 0) (pa_cons (pe_int) (pa_nil)))))) (pss_nil)) (pss_nil)) (pss_cons (ps_set (i := 3) sc_law_counts.nd rfl (Or.inl rfl) (pe_call c_law_draw.ok (hr.mono (by decide)) (by rfl) c_law_draw.g c_law_draw.kp c_law_draw.b .nil pass0 (pa_cons (pv 0) (pa_cons (pe_int) (pa_nil))))) (pss_cons (ps_set (i := 4) sc_law_counts.nd rfl (Or.inl rfl) (pe_op op_sub (pe_int) (pe_call c_law_draw.ok (hr.mono (by decide)) (by rfl) c_law_draw.g c_law_draw.kp c_law_draw.b .nil pass0 (pa_cons (pv 0) (pa_cons (pe_int) (pa_nil)))))) (pss_cons (ps_set (i := 5) sc_law_counts.nd rfl (Or.inr rfl) (pe_ix (zix_list (K := K) rfl) (pe_lst (pa_cons (pe_op op_add (pe_op op_fdivW (pe_int) (pe_callB (call_max2 rfl) (by rfl) m_max (by decide +kernel) (pa_cons (pe_int) (pa_cons (pv 4) (pa_nil))))) (pe_int)) (pa_cons (pe_int) (pa_nil)))) (pv 3) (fun _ _ => rfl))) (pss_cons (ps_ret (pe_lc (own := [("hand", 2)]) rfl sc_law_counts.nd (pi_range1 (by rfl) m_range (pa_cons (pv 4) (pa_nil))) (blkOk_by (N := ["bag", "great", "hand", "few", "hands", "top"]) (sc := defScope s_law_counts) (by decide +kernel)) (fun _ _ _ _ _ => pg_name (i := 2) sc_law_counts.nd rfl (Or.inl rfl)) (fun _ _ _ _ _ => pts_nil) (fun _ _ _ _ _ => pe_call c_law_draw.ok (hr.mono (by decide)) (by rfl) c_law_draw.g c_law_draw.kp c_law_draw.b .nil pass0 (pa_cons (pv 0) (pa_cons (pv 5) (pa_nil)))))) (pss_nil))))), ?_⟩
    obtain rfl := d_int d_great_
    refine y_ifS ?_
    refine y_test ?_
    refine y_op ?_
    refine y_var rfl ?_
    refine y_c ?_
    refine y_eqi ?_
    refine ⟨_, rfl, ?_⟩
    refine y_cases hw (fun hb hw => ?_) (fun hb hw => ?_)
    · refine y_ret ?_
      refine y_lc ?_
      refine k_iR1 ?_
      refine y_cons ?_
      refine y_op ?_
      refine k_lst ?_
      refine y_cons ?_
      refine y_c ?_
      refine y_cons ?_
      refine y_c ?_
      refine y_cons ?_
      refine y_c ?_
      refine y_cons ?_
      refine y_c ?_
      refine y_cons ?_
      refine y_c ?_
      refine y_cons ?_
      refine y_c ?_
      refine y_cons ?_
      refine y_c ?_
      refine y_nil ?_
      refine k_lstk (K := K) (xs := ([(3 : Int), (2 : Int), (4 : Int), (2 : Int), (3 : Int), (1 : Int), (0 : Int)] : (List Int))) z (DqAll.cons (Dq.int _) (DqAll.cons (Dq.int _) (DqAll.cons (Dq.int _) (DqAll.cons (Dq.int _) (DqAll.cons (Dq.int _) (DqAll.cons (Dq.int _) (DqAll.cons (Dq.int _) DqAll.nil))))))) (by show 7 ≤ sizeLine; decide) (fun H p1 ws2 z d3 => ?_)
      replace z : Zs ([(p1, HO.lst ws2)] ++ (g_bag_ ++ amb)) H Ho := z
      have o4 := OL.mk (p := p1) d3
      refine y_call ?_
      refine y_cons ?_
      refine y_var rfl ?_
      refine y_cons ?_
      refine y_c ?_
      refine y_nil ?_
      replace z : Zs (g_bag_ ++ ([(p1, HO.lst ws2)] ++ amb)) _ _ := z.go [[(p1, HO.lst ws2)], g_bag_] amb [1, 0]
      refine ⟨([(p1, HO.lst ws2)] ++ amb), _, _, _, _, _, _, rfl, z, d_bag_, (Dq.int _), ?_⟩
      refine run_mono2 hw (fun t5 bag_ hw v g_bag_ H Ho e z d6 d_bag_ => ?_)
      replace d6 : Z.D K Ho v t5 := d6
      replace d_bag_ : OH K Ho v_bag_ bag_ g_bag_ := d_bag_
      replace o4 := OL.mo o4 e
      have es8 := (Same.refl _).trans e
      first | obtain rfl := d_int d6 | cases d_int d6
      refine y_ixL (OL.lv o4 (mgS mg0)) z hw (fun t9 w d10 hw => ?_)
      first | obtain rfl := d_int d10 | cases d_int d10
      refine y_nil ?_
      refine k_srcR1 (K := K) (Ho := Ho) hw.1 (fun J T => ?_)
      replace hw := (run_gd hw).2
      refine y_lcS z T hw (fun (r11 : Addr × HO) (s : (H5 (List Int) Int Int Int Int)) (H2 Ho2 : Hp) => ∃ (g_bag_ : Grp), OH K Ho2 v_bag_ s g_bag_ ∧ Zs ([r11] ++ (g_bag_ ++ ([(p1, HO.lst ws2)] ++ amb))) H2 Ho2) (fun r H z => ⟨_, d_bag_, z⟩) ?_ ?_ ?_ ?_ ?_
      · rintro r s H Ho ⟨g_bag_, d_bag_, z⟩
        exact ⟨_, z, fun r m => mgN r m⟩
      · rintro r s H Ho H2 Ho2 ⟨g_bag_, d_bag_, z⟩ e t
        exact ⟨_, OH.mo d_bag_ e, t _ z⟩
      · rintro p o o' s H Ho hn ⟨g_bag_, d_bag_, z⟩
        exact ⟨_, d_bag_, Zs.put z hn⟩
      · intro r11 hand_ v_hand_ bag_ H Ho N N' e hI d_hand_ hw
        obtain ⟨g_bag_, d_bag_, z⟩ := hI
        have es12 := es8.trans e
        obtain rfl := d_int d_hand_
        refine y_gname (σ' := [some v_bag_, some (V.int great_), some (V.int hand_), none, none, none]) rfl ?_
        refine ⟨rfl, ?_⟩
        refine y_yes (w_t ?_)
        refine y_call ?_
        refine y_cons ?_
        refine y_var rfl ?_
        refine y_cons ?_
        refine y_c ?_
        refine y_nil ?_
        replace z : Zs (g_bag_ ++ ([r11] ++ ([(p1, HO.lst ws2)] ++ amb))) _ _ := z.go [[r11], g_bag_, [(p1, HO.lst ws2)]] amb [1, 0, 2]
        refine ⟨([r11] ++ ([(p1, HO.lst ws2)] ++ amb)), _, _, _, _, _, _, rfl, z, d_bag_, (Dq.int _), ?_⟩
        refine run_mono2 hw (fun t13 bag_ hw v g_bag_ H Ho e z d14 d_bag_ => ?_)
        replace d14 : Z.D K Ho v t13 := d14
        replace d_bag_ : OH K Ho v_bag_ bag_ g_bag_ := d_bag_
        have es16 := (Same.refl _).trans e
        first | obtain rfl := d_int d14 | cases d_int d14
        replace z : Zs ([r11] ++ (g_bag_ ++ ([(p1, HO.lst ws2)] ++ amb))) _ _ := z.go [g_bag_, [r11], [(p1, HO.lst ws2)]] amb [1, 0, 2]
        exact (run_ret hw) _ _ _ es16 ⟨_, d_bag_, z⟩ (Dq.int _)
      rintro t20 bag_ p17 ws18 H Ho e ⟨g_bag_, d_bag_, z⟩ d19 hw
      have es21 := es8.trans e
      replace z : Zs ([(p17, HO.lst ws18)] ++ (g_bag_ ++ ([(p1, HO.lst ws2)] ++ amb))) H Ho := z
      have o22 := OL.mk (p := p17) d19
      replace z : Zs ([(p17, HO.lst ws18)] ++ (g_bag_ ++ amb)) _ _ := z.go [[(p17, HO.lst ws18)], g_bag_, [(p1, HO.lst ws2)]] amb [0, 1]
      exact (run_ret hw) _ _ _ _ _ es21 z o22 d_bag_
    · refine y_nxS ?_
      refine l_asg (fun v => [_, _, _, some v, _, _]) (fun _ => rfl) ?_
      refine y_call ?_
      refine y_cons ?_
      refine y_var rfl ?_
      refine y_cons ?_
      refine y_c ?_
      refine y_nil ?_
      refine ⟨amb, _, _, _, _, _, _, rfl, z, d_bag_, (Dq.int _), ?_⟩
      refine run_mono2 hw (fun t23 bag_ hw v g_bag_ H Ho e z d24 d_bag_ => ?_)
      replace d24 : Z.D K Ho v t23 := d24
      replace d_bag_ : OH K Ho v_bag_ bag_ g_bag_ := d_bag_
      have es26 := (Same.refl _).trans e
      first | obtain rfl := d_int d24 | cases d_int d24
      refine l_i hw (fun few_ hw => ?_)
      refine l_asg (fun v => [_, _, _, _, some v, _]) (fun _ => rfl) ?_
      refine y_op ?_
      refine y_c ?_
      refine y_call ?_
      refine y_cons ?_
      refine y_var rfl ?_
      refine y_cons ?_
      refine y_c ?_
      refine y_nil ?_
      refine ⟨amb, _, _, _, _, _, _, rfl, z, d_bag_, (Dq.int _), ?_⟩
      refine run_mono2 hw (fun t27 bag_ hw v g_bag_ H Ho e z d28 d_bag_ => ?_)
      replace d28 : Z.D K Ho v t27 := d28
      replace d_bag_ : OH K Ho v_bag_ bag_ g_bag_ := d_bag_
      have es30 := es26.trans e
      first | obtain rfl := d_int d28 | cases d_int d28
      refine y_i0 ?_
      refine l_i hw (fun hands_ hw => ?_)
      refine l_asg (fun v => [_, _, _, _, _, some v]) (fun _ => rfl) ?_
      refine y_op ?_
      refine k_lst ?_
      refine y_cons ?_
      refine y_op ?_
      refine y_op ?_
      refine y_c ?_
      refine y_cb ?_
      refine y_cons ?_
      refine y_c ?_
      refine y_cons ?_
      refine y_var rfl ?_
      refine y_nil ?_
      refine ⟨_, _, rfl, ?_⟩
      refine y_ig hw.1 ?_
      replace hw := (run_gd hw).2
      refine y_c ?_
      refine y_i0 ?_
      refine y_cons ?_
      refine y_c ?_
      refine y_nil ?_
      refine k_lstk (K := K) (xs := ([(((300 : Int) / (if hands_ > (1 : Int) then hands_ else (1 : Int))) + (1 : Int)), (4 : Int)] : (List Int))) z (DqAll.cons (Dq.int _) (DqAll.cons (Dq.int _) DqAll.nil)) (by show 2 ≤ sizeLine; decide) (fun H p31 ws32 z d33 => ?_)
      replace z : Zs ([(p31, HO.lst ws32)] ++ (g_bag_ ++ amb)) H Ho := z
      have o34 := OL.mk (p := p31) d33
      refine y_var rfl ?_
      refine y_ixL (OL.lv o34 mg0) z hw (fun t35 w d36 hw => ?_)
      first | obtain rfl := d_int d36 | cases d_int d36
      refine l_i hw (fun top_ hw => ?_)
      replace z : Zs (g_bag_ ++ amb) _ _ := z.go [[(p31, HO.lst ws32)], g_bag_] amb [1]
      refine y_ret ?_
      refine y_lc ?_
      refine k_iR1 ?_
      refine y_cons ?_
      refine y_var rfl ?_
      refine y_nil ?_
      refine k_srcR1 (K := K) (Ho := Ho) hw.1 (fun J T => ?_)
      replace hw := (run_gd hw).2
      refine y_lcS z T hw (fun (r37 : Addr × HO) (s : (H5 (List Int) Int Int Int Int)) (H2 Ho2 : Hp) => ∃ (g_bag_ : Grp), OH K Ho2 v_bag_ s g_bag_ ∧ Zs ([r37] ++ (g_bag_ ++ amb)) H2 Ho2) (fun r H z => ⟨_, d_bag_, z⟩) ?_ ?_ ?_ ?_ ?_
      · rintro r s H Ho ⟨g_bag_, d_bag_, z⟩
        exact ⟨_, z, fun r m => mgN r m⟩
      · rintro r s H Ho H2 Ho2 ⟨g_bag_, d_bag_, z⟩ e t
        exact ⟨_, OH.mo d_bag_ e, t _ z⟩
      · rintro p o o' s H Ho hn ⟨g_bag_, d_bag_, z⟩
        exact ⟨_, d_bag_, Zs.put z hn⟩
      · intro r37 hand_ v_hand_ bag_ H Ho N N' e hI d_hand_ hw
        obtain ⟨g_bag_, d_bag_, z⟩ := hI
        have es38 := es30.trans e
        obtain rfl := d_int d_hand_
        refine y_gname (σ' := [some v_bag_, some (V.int great_), some (V.int hand_), some (V.int few_), some (V.int hands_), some (V.int top_)]) rfl ?_
        refine ⟨rfl, ?_⟩
        refine y_yes (w_t ?_)
        refine y_call ?_
        refine y_cons ?_
        refine y_var rfl ?_
        refine y_cons ?_
        refine y_var rfl ?_
        refine y_nil ?_
        replace z : Zs (g_bag_ ++ ([r37] ++ amb)) _ _ := z.go [[r37], g_bag_] amb [1, 0]
        refine ⟨([r37] ++ amb), _, _, _, _, _, _, rfl, z, d_bag_, (Dq.int _), ?_⟩
        refine run_mono2 hw (fun t39 bag_ hw v g_bag_ H Ho e z d40 d_bag_ => ?_)
        replace d40 : Z.D K Ho v t39 := d40
        replace d_bag_ : OH K Ho v_bag_ bag_ g_bag_ := d_bag_
        have es42 := (Same.refl _).trans e
        first | obtain rfl := d_int d40 | cases d_int d40
        replace z : Zs ([r37] ++ (g_bag_ ++ amb)) _ _ := z.go [g_bag_, [r37]] amb [1, 0]
        exact (run_ret hw) _ _ _ es42 ⟨_, d_bag_, z⟩ (Dq.int _)
      rintro t46 bag_ p43 ws44 H Ho e ⟨g_bag_, d_bag_, z⟩ d45 hw
      have es47 := es30.trans e
      replace z : Zs ([(p43, HO.lst ws44)] ++ (g_bag_ ++ amb)) H Ho := z
      have o48 := OL.mk (p := p43) d45
      exact (run_ret hw) _ _ _ _ _ es47 z o48 d_bag_
def sp_law_order (K : PySem.W.Frag) (cl : Nat → Addr) : Sp := fun vs H Q E => ∃ (amb : Grp) (Ho : Hp) (v0 : V) (x0 : (H5 (List Int) Int Int Int Int)) (g0 : Grp) (v1 : V) (x1 : (List Int)), vs = [v0, v1] ∧ Zs (g0 ++ amb) H Ho ∧ OH K Ho v0 x0 g0 ∧ LV K amb Ho v1 x1 ∧ (m_law_order x0 x1).run fun r => ∀ v h0 H' Ho', Same Ho Ho' → Zs (h0 ++ amb) H' Ho' → Z.D K Ho' v r.1 → OH K Ho' v0 r.2 h0 → Q v H'
abbrev s_law_order : Stmt := topS 20
theorem sc_law_order : FnScope ["bag", "counts", "left", "order", "step", "some", "hand"] ["bag", "counts"] (defScope s_law_order) := ⟨rfl, rfl, rfl, by decide +kernel, rfl, by decide +kernel, by decide +kernel⟩
theorem ok_law_order {f : Addr} {fd : FuncData} (F : Fun K "_law_order" "_law_order" s_law_order f fd) {f_law_draw : Addr} {fd_law_draw : FuncData} (c_law_draw : Cal P w K mg base CX0 "_law_draw" ["bag", "many"] 2 (sp_law_draw K cl) f_law_draw fd_law_draw) (m_list : mg "list" = none) (m_sum : mg "sum" = none) (m_range : mg "range" = none) (m_len : mg "len" = none) :
    FnOk P w K mg base CX0 3 f fd ["bag", "counts"] (sp_law_order K cl) := by
  refine F.ok sc_law_order (fun vs H Q E h => ?_) (fun cdv A outer s H vs Q E hr h => ?_)
  · obtain ⟨amb, Ho, v_bag_, bag_, g_bag_, v_counts_, counts_, rfl, _⟩ := h
    rfl
  · obtain ⟨amb, Ho, v_bag_, bag_, g_bag_, v_counts_, counts_, rfl, z, d_bag_, d_counts_, hw⟩ := h
    refine ⟨_, pss_cons (ps_set (i := 2) sc_law_order.nd rfl (Or.inr rfl) (pe_callTy (zlist (K := K) rfl) (by rfl) m_list (by decide +kernel) (pa_cons (pv 1) (pa_nil)))) (pss_cons (ps_set (i := 3) sc_law_order.nd rfl (Or.inl rfl) (pe_lst (pa_nil))) (pss_cons (ps_for PassesOwn.never rfl (pi_range1 (by rfl) m_range (pa_cons (pe_callB (zsum (K := K) rfl rfl) (by rfl) m_sum (by decide +kernel) (pa_cons (pv 1) (pa_nil))) (pa_nil))) (pg_name (i := 4) sc_law_order.nd rfl (Or.inl rfl)) (pss_cons (ps_setLc (i := 5) (own := [("hand", 6)]) rfl sc_law_order.nd rfl rfl (sw_true rfl rfl rfl (by decide +kernel)) (pi_range1 (by rfl) m_range (pa_cons (pe_callB (zlen (K := K) rfl) (by rfl) m_len (by decide +kernel) (pa_cons (pv 2) (pa_nil))) (pa_nil))) (blkOk_by (N := ["bag", "counts", "left", "order", "step", "some", "hand"]) (sc := defScope s_law_order) (by decide +kernel)) (fun _ _ _ _ _ => pg_name (i := 6) sc_law_order.nd rfl (Or.inl rfl)) (fun _ _ _ _ _ => pts_one (pt_cmpR (op_gt) (pe_ix (zix_list (K := K) rfl) (pv 2) (pv 6) (fun _ _ => rfl)) (pe_int) (nomark _))) (fun _ _ _ _ _ => pv 6)) (pss_cons (ps_expr (pe_bm PySem.F.plainAttrs_list PySem.F.slot_list_append PySem.F.type_list_append mt_append (pv 3) (pa_cons (pe_ix (zix_list (K := K) rfl) (pv 5) (pe_call c_law_draw.ok (hr.mono (by decide)) (by rfl) c_law_draw.g c_law_draw.kp c_law_draw.b .nil pass0 (pa_cons (pv 0) (pa_cons (pe_callB (zlen (K := K) rfl) (by rfl) m_len (by decide +kernel) (pa_cons (pv 5) (pa_nil))) (pa_nil)))) (fun _ _ => rfl)) (pa_nil)))) (pss_cons (ps_asg (pe_op op_sub (pe_ix (zix_list (K := K) rfl) (pv 2) (pe_ix (zix_list (K := K) rfl) (pv 3) (pe_un un_neg (pe_int)) (fun _ _ => rfl)) (fun _ _ => rfl)) (pe_int)) (pg_sub (pv 2) (pe_ix (zix_list (K := K) rfl) (pv 3) (pe_un un_neg (pe_int)) (fun _ _ => rfl)) set_list)) (pss_nil))))) (pss_cons (ps_ret (pv 3)) (pss_nil)))), ?_⟩
    refine l_asg (fun v => [_, _, some v, _, _, _, _]) (fun _ => rfl) ?_
    refine y_cb ?_
    refine y_cons ?_
    refine y_var rfl ?_
    refine y_nil ?_
    refine y_list (LV.sub d_counts_ (mgS mgE)) z (fun H p1 ws2 z d3 => ?_)
    replace z : Zs ([(p1, HO.lst ws2)] ++ (g_bag_ ++ amb)) H Ho := z
    have o4 := OL.mk (p := p1) d3
    refine l_o hw z o4 (fun left_ v_left_ g_left_ z d_left_ hw => ?_)
    refine l_asg (fun v => [_, _, _, some v, _, _, _]) (fun _ => rfl) ?_
    refine k_lst ?_
    refine y_nil ?_
    refine k_lstk (K := K) (xs := ([] : (List Int))) z DqAll.nil (by show 0 ≤ sizeLine; decide) (fun H p5 ws6 z d7 => ?_)
    replace z : Zs ([(p5, HO.lst ws6)] ++ (g_left_ ++ (g_bag_ ++ amb))) H Ho := z
    have o8 := OL.mk (p := p5) d7
    refine l_o hw z o8 (fun order_ v_order_ g_order_ z d_order_ hw => ?_)
    refine y_for ?_
    refine k_iR1 ?_
    refine y_cons ?_
    refine y_cb ?_
    refine y_cons ?_
    refine y_var rfl ?_
    refine y_nil ?_
    refine y_sum (LV.sub d_counts_ (mgS (mgS (mgS mgE)))) z ?_
    refine y_nil ?_
    refine k_srcR1 (K := K) (Ho := Ho) hw.1 (fun J T => ?_)
    replace hw := (run_gd hw).2
    refine y_forL T hw (fun (s : (H5 (List Int) Int Int Int Int) × (List Int) × (List Int)) (σ : L2.St) (H Ho : Hp) => ∃ (g_bag_ : Grp) (g_left_ : Grp) (g_order_ : Grp) (y_step_ : Option V) (y_some_ : Option V), σ = [some v_bag_, some v_counts_, some v_left_, some v_order_, y_step_, y_some_, none] ∧ Zs (g_order_ ++ (g_left_ ++ (g_bag_ ++ amb))) H Ho ∧ OH K Ho v_bag_ s.1 g_bag_ ∧ OL K Ho v_left_ s.2.1 g_left_ ∧ OL K Ho v_order_ s.2.2 g_order_) ⟨_, _, _, _, _, rfl, z, d_bag_, d_left_, d_order_⟩ ?_ ?_ ?_ ?_
    · intro s σ H Ho hI
      obtain ⟨bag_, left_, order_⟩ := s
      obtain ⟨g_bag_, g_left_, g_order_, y_step_, y_some_, rfl, z, d_bag_, d_left_, d_order_⟩ := hI
      exact ⟨_, z, mgN⟩
    · intro s σ H Ho H2 Ho2 hI e t
      obtain ⟨bag_, left_, order_⟩ := s
      obtain ⟨g_bag_, g_left_, g_order_, y_step_, y_some_, rfl, z, d_bag_, d_left_, d_order_⟩ := hI
      exact ⟨_, _, _, _, _, rfl, t _ z, OH.mo d_bag_ e, OL.mo d_left_ e, OL.mo d_order_ e⟩
    · intro step_ v_step_ s σ H Ho N e hI d_step_ hw
      obtain ⟨bag_, left_, order_⟩ := s
      obtain ⟨g_bag_, g_left_, g_order_, y_step_, y_some_, rfl, z, d_bag_, d_left_, d_order_⟩ := hI
      have es9 := (Same.refl _).trans e
      obtain rfl := d_int d_step_
      refine y_gname (σ' := [some v_bag_, some v_counts_, some v_left_, some v_order_, some (V.int step_), y_some_, none]) rfl ?_
      refine l_asg (fun v => [_, _, _, _, _, some v, _]) (fun _ => rfl) ?_
      refine y_lc ?_
      refine k_iR1 ?_
      refine y_cons ?_
      refine y_cb ?_
      refine y_cons ?_
      refine y_var rfl ?_
      refine y_nil ?_
      refine y_len (OL.lv d_left_ (mgS mg0)) z ?_
      refine y_nil ?_
      refine k_srcR1 (K := K) (Ho := Ho) hw.1 (fun J T => ?_)
      replace hw := (run_gd hw).2
      refine y_lcG z mgN T hw (fun r10 hand_ v_hand_ H Ho N N' e z d_hand_ hw => ?_) (fun t17 H Ho e hw p14 ws15 z d16 => ?_)
      · replace z : Zs ([r10] ++ (g_order_ ++ (g_left_ ++ (g_bag_ ++ amb)))) H Ho := z
        replace d_bag_ := OH.mo d_bag_ e
        replace d_left_ := OL.mo d_left_ e
        replace d_order_ := OL.mo d_order_ e
        have es11 := (Same.refl _).trans e
        obtain rfl := d_int d_hand_
        refine y_gname (σ' := [some v_bag_, some v_counts_, some v_left_, some v_order_, some (V.int step_), y_some_, some (V.int hand_)]) rfl ?_
        refine ⟨rfl, ?_⟩
        refine y_test ?_
        refine y_op ?_
        refine y_op ?_
        refine y_var rfl ?_
        refine y_var rfl ?_
        refine y_ixL (OL.lv d_left_ (mgS (mgS mg0))) z hw (fun t12 w d13 hw => ?_)
        first | obtain rfl := d_int d13 | cases d_int d13
        refine y_c ?_
        refine y_i0 ?_
        refine ⟨_, rfl, ?_⟩
        refine w_two (fun hb => ?_) (fun hb => ?_)
        · replace hw := run_itT (run_ret hw) hb
          refine y_var rfl ?_
          exact (run_ret hw) _ _ _ (Same.refl _) z (Dq.int _)
        · exact run_itF (run_ret hw) hb _ _ (Same.refl _) z
      replace d_bag_ := OH.mo d_bag_ e
      replace d_left_ := OL.mo d_left_ e
      replace d_order_ := OL.mo d_order_ e
      have es18 := (Same.refl _).trans e
      replace z : Zs ([(p14, HO.lst ws15)] ++ (g_order_ ++ (g_left_ ++ (g_bag_ ++ amb)))) H Ho := z
      have o19 := OL.mk (p := p14) d16
      refine l_fr o19 z (fun Ho e z d20 => ?_)
      replace d_bag_ := OH.mo d_bag_ e
      replace d_left_ := OL.mo d_left_ e
      replace d_order_ := OL.mo d_order_ e
      have es21 := es18.trans e
      refine l_d (K := K) (Ho := Ho) hw d20 (fun some_ v_some_ d_some_ hw => ?_)
      refine y_drop ?_
      refine y_bm ?_
      refine y_var rfl ?_
      refine g_tyL (OL.lv d_order_ mg0) z ?_
      refine y_cons ?_
      refine y_op ?_
      refine y_var rfl ?_
      refine y_call ?_
      refine y_cons ?_
      refine y_var rfl ?_
      refine y_cons ?_
      refine y_cb ?_
      refine y_cons ?_
      refine y_var rfl ?_
      refine y_nil ?_
      refine y_len (LV.of d_some_) z ?_
      refine y_nil ?_
      replace z : Zs (g_bag_ ++ (g_order_ ++ (g_left_ ++ amb))) _ _ := z.go [g_order_, g_left_, g_bag_] amb [2, 0, 1]
      refine ⟨(g_order_ ++ (g_left_ ++ amb)), _, _, _, _, _, _, rfl, z, d_bag_, (Dq.int _), ?_⟩
      refine run_mono2 hw (fun t22 bag_ hw v g_bag_ H Ho e z d23 d_bag_ => ?_)
      replace d23 : Z.D K Ho v t22 := d23
      replace d_bag_ : OH K Ho v_bag_ bag_ g_bag_ := d_bag_
      replace d_left_ := OL.mo d_left_ e
      replace d_order_ := OL.mo d_order_ e
      replace d_some_ := D.mo d_some_ e
      have es25 := es21.trans e
      first | obtain rfl := d_int d23 | cases d_int d23
      refine y_ixL (LV.of d_some_) z hw (fun t26 w d27 hw => ?_)
      first | obtain rfl := d_int d27 | cases d_int d27
      refine y_nil ?_
      replace z : Zs (g_order_ ++ (g_bag_ ++ (g_left_ ++ amb))) _ _ := z.go [g_bag_, g_order_, g_left_] amb [1, 0, 2]
      refine g_app z d_order_ (Dq.int _) hw (fun order_ g_order_ H z d_order_ hw => ?_)
      refine y_asgG ?_
      refine y_op ?_
      refine y_op ?_
      refine y_var rfl ?_
      refine y_op ?_
      refine y_var rfl ?_
      refine y_un ?_
      refine y_c ?_
      refine y_neg ?_
      refine y_ixL (OL.lv d_order_ mg0) z hw (fun t28 w d29 hw => ?_)
      first | obtain rfl := d_int d29 | cases d_int d29
      refine y_ixL (OL.lv d_left_ (mgS (mgS mg0))) z hw (fun t30 w d31 hw => ?_)
      first | obtain rfl := d_int d31 | cases d_int d31
      refine y_c ?_
      refine y_i0 ?_
      refine y_gsub ?_
      refine y_var rfl ?_
      refine y_op ?_
      refine y_var rfl ?_
      refine y_un ?_
      refine y_c ?_
      refine y_neg ?_
      refine y_ixL (OL.lv d_order_ mg0) z hw (fun t32 w d33 hw => ?_)
      first | obtain rfl := d_int d33 | cases d_int d33
      replace z : Zs (g_left_ ++ (g_order_ ++ (g_bag_ ++ amb))) _ _ := z.go [g_order_, g_bag_, g_left_] amb [2, 0, 1]
      refine g_sti z d_left_ (Dq.int _) hw (fun left_ g_left_ H z d_left_ hw => ?_)
      replace z : Zs (g_order_ ++ (g_left_ ++ (g_bag_ ++ amb))) _ _ := z.go [g_left_, g_order_, g_bag_] amb [1, 0, 2]
      exact (run_ret hw) _ _ _ es25 ⟨_, _, _, _, _, rfl, z, d_bag_, d_left_, d_order_⟩
    intro s σ H Ho e hI hw
    obtain ⟨bag_, left_, order_⟩ := s
    obtain ⟨g_bag_, g_left_, g_order_, y_step_, y_some_, rfl, z, d_bag_, d_left_, d_order_⟩ := hI
    have es34 := (Same.refl _).trans e
    refine y_ret ?_
    refine y_var rfl ?_
    refine l_fr d_order_ z (fun Ho e z d_order_ => ?_)
    replace d_bag_ := OH.mo d_bag_ e
    replace d_left_ := OL.mo d_left_ e
    have es35 := es34.trans e
    replace z : Zs (g_bag_ ++ amb) _ _ := z.go [g_left_, g_bag_] amb [1]
    exact (run_ret hw) _ _ _ _ es35 z d_order_ d_bag_
def sp_law_spots (K : PySem.W.Frag) (cl : Nat → Addr) : Sp := fun vs H Q E => ∃ (amb : Grp) (Ho : Hp) (v0 : V) (x0 : (List Int)), vs = [v0] ∧ Zs amb H Ho ∧ LV K amb Ho v0 x0 ∧ (m_law_spots x0).run fun r => ∀ v g H' Ho', Same Ho Ho' → Zs (g ++ amb) H' Ho' → OD K Ho' v r g → Q v H'
abbrev s_law_spots : Stmt := topS 21
theorem sc_law_spots : FnScope ["order", "found", "many", "at"] ["order"] (defScope s_law_spots) := ⟨rfl, rfl, rfl, by decide +kernel, rfl, by decide +kernel, by decide +kernel⟩
theorem ok_law_spots {f : Addr} {fd : FuncData} (F : Fun K "_law_spots" "_law_spots" s_law_spots f fd) (m_len : mg "len" = none) (m_range : mg "range" = none) :
    FnOk P w K mg base CX0 1 f fd ["order"] (sp_law_spots K cl) := by
  refine F.ok sc_law_spots (fun vs H Q E h => ?_) (fun cdv A outer s H vs Q E hr h => ?_)
  · obtain ⟨amb, Ho, v_order_, order_, rfl, _⟩ := h
    rfl
  · obtain ⟨amb, Ho, v_order_, order_, rfl, z, d_order_, hw⟩ := h
    refine ⟨_, pss_cons (ps_set (i := 1) sc_law_spots.nd rfl (Or.inl rfl) (pe_dnewT)) (pss_cons (ps_set (i := 2) sc_law_spots.nd rfl (Or.inl rfl) (pe_dnewK)) (pss_cons (ps_for PassesOwn.never rfl (pi_range1 (by rfl) m_range (pa_cons (pe_callB (zlen (K := K) rfl) (by rfl) m_len (by decide +kernel) (pa_cons (pv 0) (pa_nil))) (pa_nil))) (pg_name (i := 3) sc_law_spots.nd rfl (Or.inl rfl)) (pss_cons (ps_dput (room1 hr) (pv 2) (pe_ix (zix_list (K := K) rfl) (pv 0) (pv 3) (fun _ _ => rfl)) (pe_op op_add (pe_dget2 (room1 hr) (pv 2) (pe_ix (zix_list (K := K) rfl) (pv 0) (pv 3) (fun _ _ => rfl)) (pe_int) ⟨by rfl, by rfl, by rfl, by rfl⟩) (pe_int)) (by rfl)) (pss_cons (ps_dput (room1 hr) (pv 1) (pe_tup (pa_cons (pe_ix (zix_list (K := K) rfl) (pv 0) (pv 3) (fun _ _ => rfl)) (pa_cons (pe_op op_sub (pe_dget (room1 hr) (pv 2) (pe_ix (zix_list (K := K) rfl) (pv 0) (pv 3) (fun _ _ => rfl)) (fun _ _ => rfl)) (pe_int)) (pa_nil)))) (pv 3) (by rfl)) (pss_nil)))) (pss_cons (ps_ret (pv 1)) (pss_nil)))), ?_⟩
    refine l_asg (fun v => [_, some v, _, _]) (fun _ => rfl) ?_
    refine g_dnewT (K := K) (α := Int) z (fun H v1 g2 z o3 => ?_)
    refine d_o hw z o3 (fun found_ v_found_ g_found_ z d_found_ hw => ?_)
    refine l_asg (fun v => [_, _, some v, _]) (fun _ => rfl) ?_
    refine g_dnewK (K := K) (α := Int) z (fun H v4 g5 z o6 => ?_)
    refine d_o hw z o6 (fun many_ v_many_ g_many_ z d_many_ hw => ?_)
    refine y_for ?_
    refine k_iR1 ?_
    refine y_cons ?_
    refine y_cb ?_
    refine y_cons ?_
    refine y_var rfl ?_
    refine y_nil ?_
    refine y_len (LV.sub d_order_ (mgS (mgS mgE))) z ?_
    refine y_nil ?_
    refine k_srcR1 (K := K) (Ho := Ho) hw.1 (fun J T => ?_)
    replace hw := (run_gd hw).2
    refine y_forL T hw (fun (s : (Dc (Int × Int) Int) × (Dc Int Int)) (σ : L2.St) (H Ho : Hp) => ∃ (g_found_ : Grp) (g_many_ : Grp) (y_at_ : Option V), σ = [some v_order_, some v_found_, some v_many_, y_at_] ∧ Zs (g_many_ ++ (g_found_ ++ amb)) H Ho ∧ OD K Ho v_found_ s.1 g_found_ ∧ OD K Ho v_many_ s.2 g_many_) ⟨_, _, _, rfl, z, d_found_, d_many_⟩ ?_ ?_ ?_ ?_
    · intro s σ H Ho hI
      obtain ⟨found_, many_⟩ := s
      obtain ⟨g_found_, g_many_, y_at_, rfl, z, d_found_, d_many_⟩ := hI
      exact ⟨_, z, mgN⟩
    · intro s σ H Ho H2 Ho2 hI e t
      obtain ⟨found_, many_⟩ := s
      obtain ⟨g_found_, g_many_, y_at_, rfl, z, d_found_, d_many_⟩ := hI
      exact ⟨_, _, _, rfl, t _ z, OD.mo d_found_ e, OD.mo d_many_ e⟩
    · intro at_ v_at_ s σ H Ho N e hI d_at_ hw
      obtain ⟨found_, many_⟩ := s
      obtain ⟨g_found_, g_many_, y_at_, rfl, z, d_found_, d_many_⟩ := hI
      replace d_order_ := LV.mo d_order_ e
      have es7 := (Same.refl _).trans e
      obtain rfl := d_int d_at_
      refine y_gname (σ' := [some v_order_, some v_found_, some v_many_, some (V.int at_)]) rfl ?_
      refine y_dput ?_
      refine y_op ?_
      refine y_dget2 ?_
      refine y_var rfl ?_
      refine g_isd ⟨_, d_many_, mg0⟩ z (fun a8 ea8 => ?_)
      refine y_op ?_
      refine y_var rfl ?_
      refine y_var rfl ?_
      refine y_ixL (LV.sub d_order_ (mgS (mgS mgE))) z hw (fun t9 w d10 hw => ?_)
      first | obtain rfl := d_int d10 | cases d_int d10
      refine y_c ?_
      refine g_dget2 ea8 ⟨_, d_many_, mg0⟩ z (Dq.int _) (Dq.int _) (fun w d11 => ?_)
      obtain rfl := d_int d11
      refine y_c ?_
      refine y_i0 ?_
      refine y_var rfl ?_
      refine y_op ?_
      refine y_var rfl ?_
      refine y_var rfl ?_
      refine y_ixL (LV.sub d_order_ (mgS (mgS mgE))) z hw (fun t12 w d13 hw => ?_)
      first | obtain rfl := d_int d13 | cases d_int d13
      refine g_dput z d_many_ (Dq.int _) (Dq.int _) hw (fun many_ g_many_ H z d_many_ hw => ?_)
      refine y_dput ?_
      refine y_var rfl ?_
      refine y_var rfl ?_
      refine k_tup ?_
      refine y_cons ?_
      refine y_op ?_
      refine y_var rfl ?_
      refine y_var rfl ?_
      refine y_ixL (LV.sub d_order_ (mgS (mgS mgE))) z hw (fun t14 w d15 hw => ?_)
      first | obtain rfl := d_int d15 | cases d_int d15
      refine y_cons ?_
      refine y_op ?_
      refine y_dget ?_
      refine y_var rfl ?_
      refine y_op ?_
      refine y_var rfl ?_
      refine y_var rfl ?_
      refine y_ixL (LV.sub d_order_ (mgS (mgS mgE))) z hw (fun t16 w d17 hw => ?_)
      first | obtain rfl := d_int d17 | cases d_int d17
      refine g_dget ⟨_, d_many_, mg0⟩ z (Dq.int _) hw (fun t18 w d19 hw => ?_)
      first | obtain rfl := d_int d19 | cases d_int d19
      refine y_c ?_
      refine y_i0 ?_
      refine y_nil ?_
      refine k_tupk (K := K) (x := (t14, (t18 - (1 : Int)))) z (by show 2 ≤ sizeLine; decide) _ rfl (DqAll.cons (Dq.int _) (DqAll.cons (Dq.int _) DqAll.nil)) (fun p H Ho e z d20 => ?_)
      replace d_found_ := OD.mo d_found_ e
      replace d_many_ := OD.mo d_many_ e
      replace d_order_ := LV.mo d_order_ e
      have es21 := (Same.refl _).trans e
      replace z : Zs (g_found_ ++ (g_many_ ++ amb)) _ _ := z.go [g_many_, g_found_] amb [1, 0]
      refine g_dput z d_found_ d20 (Dq.int _) hw (fun found_ g_found_ H z d_found_ hw => ?_)
      replace z : Zs (g_many_ ++ (g_found_ ++ amb)) _ _ := z.go [g_found_, g_many_] amb [1, 0]
      exact (run_ret hw) _ _ _ es21 ⟨_, _, _, rfl, z, d_found_, d_many_⟩
    intro s σ H Ho e hI hw
    obtain ⟨found_, many_⟩ := s
    obtain ⟨g_found_, g_many_, y_at_, rfl, z, d_found_, d_many_⟩ := hI
    have es22 := (Same.refl _).trans e
    refine y_ret ?_
    refine y_var rfl ?_
    replace z : Zs (g_found_ ++ amb) _ _ := z.go [g_many_, g_found_] amb [1]
    exact (run_ret hw) _ _ _ _ es22 z d_found_
def sp_law_note (K : PySem.W.Frag) (cl : Nat → Addr) : Sp := fun vs H Q E => ∃ (amb : Grp) (Ho : Hp) (v0 : V) (x0 : (H5 (List Int) Int Int Int Int)) (g0 : Grp) (v1 : V) (x1 : (List Int)), vs = [v0, v1] ∧ Zs (g0 ++ amb) H Ho ∧ OH K Ho v0 x0 g0 ∧ LV K amb Ho v1 x1 ∧ (m_law_note x0 x1).run fun r => ∀ v h0 H' Ho', Same Ho Ho' → Zs (h0 ++ amb) H' Ho' → Z.D K Ho' v r.1 → OH K Ho' v0 r.2 h0 → Q v H'
abbrev s_law_note : Stmt := topS 22
theorem sc_law_note : FnScope ["bag", "counts", "some", "hand", "i", "j"] ["bag", "counts"] (defScope s_law_note) := ⟨rfl, rfl, rfl, by decide +kernel, rfl, by decide +kernel, by decide +kernel⟩
theorem ok_law_note {f : Addr} {fd : FuncData} (F : Fun K "_law_note" "_law_note" s_law_note f fd) {f_law_draw : Addr} {fd_law_draw : FuncData} (c_law_draw : Cal P w K mg base CX0 "_law_draw" ["bag", "many"] 2 (sp_law_draw K cl) f_law_draw fd_law_draw) (m_len : mg "len" = none) (m_range : mg "range" = none) :
    FnOk P w K mg base CX0 3 f fd ["bag", "counts"] (sp_law_note K cl) := by
  refine F.ok sc_law_note (fun vs H Q E h => ?_) (fun cdv A outer s H vs Q E hr h => ?_)
  · obtain ⟨amb, Ho, v_bag_, bag_, g_bag_, v_counts_, counts_, rfl, _⟩ := h
    rfl
  · obtain ⟨amb, Ho, v_bag_, bag_, g_bag_, v_counts_, counts_, rfl, z, d_bag_, d_counts_, hw⟩ := h
    refine ⟨_, pss_cons (ps_setLc (i := 2) (own := [("hand", 3)]) rfl sc_law_note.nd rfl rfl (sw_true rfl rfl rfl (by decide +kernel)) (pi_range1 (by rfl) m_range (pa_cons (pe_callB (zlen (K := K) rfl) (by rfl) m_len (by decide +kernel) (pa_cons (pv 1) (pa_nil))) (pa_nil))) (blkOk_by (N := ["bag", "counts", "some", "hand", "i", "j"]) (sc := defScope s_law_note) (by decide +kernel)) (fun _ _ _ _ _ => pg_name (i := 3) sc_law_note.nd rfl (Or.inl rfl)) (fun _ _ _ _ _ => pts_one (pt_cmpR (op_gt) (pe_ix (zix_list (K := K) rfl) (pv 1) (pv 3) (fun _ _ => rfl)) (pe_int) (nomark _))) (fun _ _ _ _ _ => pv 3)) (pss_cons (ps_if (pt_cmpR (op_lt) (pe_callB (zlen (K := K) rfl) (by rfl) m_len (by decide +kernel) (pa_cons (pv 2) (pa_nil))) (pe_int) (nomark _)) (pss_cons (ps_ret (pe_non)) (pss_nil)) (pss_nil)) (pss_cons (ps_set (i := 4) sc_law_note.nd rfl (Or.inl rfl) (pe_call c_law_draw.ok (hr.mono (by decide)) (by rfl) c_law_draw.g c_law_draw.kp c_law_draw.b .nil pass0 (pa_cons (pv 0) (pa_cons (pe_callB (zlen (K := K) rfl) (by rfl) m_len (by decide +kernel) (pa_cons (pv 2) (pa_nil))) (pa_nil))))) (pss_cons (ps_set (i := 5) sc_law_note.nd rfl (Or.inl rfl) (pe_op op_mod (pe_op op_add (pe_op op_add (pv 4) (pe_int)) (pe_call c_law_draw.ok (hr.mono (by decide)) (by rfl) c_law_draw.g c_law_draw.kp c_law_draw.b .nil pass0 (pa_cons (pv 0) (pa_cons (pe_op op_sub (pe_callB (zlen (K := K) rfl) (by rfl) m_len (by decide +kernel) (pa_cons (pv 2) (pa_nil))) (pe_int)) (pa_nil))))) (pe_callB (zlen (K := K) rfl) (by rfl) m_len (by decide +kernel) (pa_cons (pv 2) (pa_nil))))) (pss_cons (ps_ret (pe_tup (pa_cons (pe_ix (zix_list (K := K) rfl) (pv 2) (pv 4) (fun _ _ => rfl)) (pa_cons (pe_call c_law_draw.ok (hr.mono (by decide)) (by rfl) c_law_draw.g c_law_draw.kp c_law_draw.b .nil pass0 (pa_cons (pv 0) (pa_cons (pe_ix (zix_list (K := K) rfl) (pv 1) (pe_ix (zix_list (K := K) rfl) (pv 2) (pv 4) (fun _ _ => rfl)) (fun _ _ => rfl)) (pa_nil)))) (pa_cons (pe_ix (zix_list (K := K) rfl) (pv 2) (pv 5) (fun _ _ => rfl)) (pa_cons (pe_call c_law_draw.ok (hr.mono (by decide)) (by rfl) c_law_draw.g c_law_draw.kp c_law_draw.b .nil pass0 (pa_cons (pv 0) (pa_cons (pe_ix (zix_list (K := K) rfl) (pv 1) (pe_ix (zix_list (K := K) rfl) (pv 2) (pv 5) (fun _ _ => rfl)) (fun _ _ => rfl)) (pa_nil)))) (pa_nil))))))) (pss_nil))))), ?_⟩
    refine l_asg (fun v => [_, _, some v, _, _, _]) (fun _ => rfl) ?_
    refine y_lc ?_
    refine k_iR1 ?_
    refine y_cons ?_
    refine y_cb ?_
    refine y_cons ?_
    refine y_var rfl ?_
    refine y_nil ?_
    refine y_len (LV.sub d_counts_ (mgS mgE)) z ?_
    refine y_nil ?_
    refine k_srcR1 (K := K) (Ho := Ho) hw.1 (fun J T => ?_)
    replace hw := (run_gd hw).2
    refine y_lcG z mgN T hw (fun r1 hand_ v_hand_ H Ho N N' e z d_hand_ hw => ?_) (fun t8 H Ho e hw p5 ws6 z d7 => ?_)
    · replace z : Zs ([r1] ++ (g_bag_ ++ amb)) H Ho := z
      replace d_bag_ := OH.mo d_bag_ e
      replace d_counts_ := LV.mo d_counts_ e
      have es2 := (Same.refl _).trans e
      obtain rfl := d_int d_hand_
      refine y_gname (σ' := [some v_bag_, some v_counts_, none, some (V.int hand_), none, none]) rfl ?_
      refine ⟨rfl, ?_⟩
      refine y_test ?_
      refine y_op ?_
      refine y_op ?_
      refine y_var rfl ?_
      refine y_var rfl ?_
      refine y_ixL (LV.sub d_counts_ (mgS (mgS mgE))) z hw (fun t3 w d4 hw => ?_)
      first | obtain rfl := d_int d4 | cases d_int d4
      refine y_c ?_
      refine y_i0 ?_
      refine ⟨_, rfl, ?_⟩
      refine w_two (fun hb => ?_) (fun hb => ?_)
      · replace hw := run_itT (run_ret hw) hb
        refine y_var rfl ?_
        exact (run_ret hw) _ _ _ (Same.refl _) z (Dq.int _)
      · exact run_itF (run_ret hw) hb _ _ (Same.refl _) z
    replace d_bag_ := OH.mo d_bag_ e
    replace d_counts_ := LV.mo d_counts_ e
    have es9 := (Same.refl _).trans e
    replace z : Zs ([(p5, HO.lst ws6)] ++ (g_bag_ ++ amb)) H Ho := z
    have o10 := OL.mk (p := p5) d7
    refine l_fr o10 z (fun Ho e z d11 => ?_)
    replace d_bag_ := OH.mo d_bag_ e
    replace d_counts_ := LV.mo d_counts_ e
    have es12 := es9.trans e
    refine l_d (K := K) (Ho := Ho) hw d11 (fun some_ v_some_ d_some_ hw => ?_)
    refine y_ifS ?_
    refine y_test ?_
    refine y_op ?_
    refine y_cb ?_
    refine y_cons ?_
    refine y_var rfl ?_
    refine y_nil ?_
    refine y_len (LV.of d_some_) z ?_
    refine y_c ?_
    refine y_i0 ?_
    refine ⟨_, rfl, ?_⟩
    refine y_cases hw (fun hb hw => ?_) (fun hb hw => ?_)
    · refine y_ret ?_
      refine y_c ?_
      exact (run_ret hw) _ _ _ _ es12 z (show Z.D K Ho V.non (none : (Option (P4 Int Int Int Int))) from Dq.non) d_bag_
    · refine y_nxS ?_
      refine l_asg (fun v => [_, _, _, _, some v, _]) (fun _ => rfl) ?_
      refine y_call ?_
      refine y_cons ?_
      refine y_var rfl ?_
      refine y_cons ?_
      refine y_cb ?_
      refine y_cons ?_
      refine y_var rfl ?_
      refine y_nil ?_
      refine y_len (LV.of d_some_) z ?_
      refine y_nil ?_
      refine ⟨amb, _, _, _, _, _, _, rfl, z, d_bag_, (Dq.int _), ?_⟩
      refine run_mono2 hw (fun t13 bag_ hw v g_bag_ H Ho e z d14 d_bag_ => ?_)
      replace d14 : Z.D K Ho v t13 := d14
      replace d_bag_ : OH K Ho v_bag_ bag_ g_bag_ := d_bag_
      replace d_counts_ := LV.mo d_counts_ e
      replace d_some_ := D.mo d_some_ e
      have es16 := es12.trans e
      first | obtain rfl := d_int d14 | cases d_int d14
      refine l_i hw (fun i_ hw => ?_)
      refine l_asg (fun v => [_, _, _, _, _, some v]) (fun _ => rfl) ?_
      refine y_op ?_
      refine y_op ?_
      refine y_op ?_
      refine y_var rfl ?_
      refine y_c ?_
      refine y_i0 ?_
      refine y_call ?_
      refine y_cons ?_
      refine y_var rfl ?_
      refine y_cons ?_
      refine y_op ?_
      refine y_cb ?_
      refine y_cons ?_
      refine y_var rfl ?_
      refine y_nil ?_
      refine y_len (LV.of d_some_) z ?_
      refine y_c ?_
      refine y_i0 ?_
      refine y_nil ?_
      refine ⟨amb, _, _, _, _, _, _, rfl, z, d_bag_, (Dq.int _), ?_⟩
      refine run_mono2 hw (fun t17 bag_ hw v g_bag_ H Ho e z d18 d_bag_ => ?_)
      replace d18 : Z.D K Ho v t17 := d18
      replace d_bag_ : OH K Ho v_bag_ bag_ g_bag_ := d_bag_
      replace d_counts_ := LV.mo d_counts_ e
      replace d_some_ := D.mo d_some_ e
      have es20 := es16.trans e
      first | obtain rfl := d_int d18 | cases d_int d18
      refine y_i0 ?_
      refine y_cb ?_
      refine y_cons ?_
      refine y_var rfl ?_
      refine y_nil ?_
      refine y_len (LV.of d_some_) z ?_
      refine y_ig hw.1 ?_
      replace hw := (run_gd hw).2
      refine l_i hw (fun j_ hw => ?_)
      refine y_ret ?_
      refine k_tup ?_
      refine y_cons ?_
      refine y_op ?_
      refine y_var rfl ?_
      refine y_var rfl ?_
      refine y_ixL (LV.of d_some_) z hw (fun t21 w d22 hw => ?_)
      first | obtain rfl := d_int d22 | cases d_int d22
      refine y_cons ?_
      refine y_call ?_
      refine y_cons ?_
      refine y_var rfl ?_
      refine y_cons ?_
      refine y_op ?_
      refine y_var rfl ?_
      refine y_op ?_
      refine y_var rfl ?_
      refine y_var rfl ?_
      refine y_ixL (LV.of d_some_) z hw (fun t23 w d24 hw => ?_)
      first | obtain rfl := d_int d24 | cases d_int d24
      refine y_ixL (LV.sub d_counts_ (mgS mgE)) z hw (fun t25 w d26 hw => ?_)
      first | obtain rfl := d_int d26 | cases d_int d26
      refine y_nil ?_
      refine ⟨amb, _, _, _, _, _, _, rfl, z, d_bag_, (Dq.int _), ?_⟩
      refine run_mono2 hw (fun t27 bag_ hw v g_bag_ H Ho e z d28 d_bag_ => ?_)
      replace d28 : Z.D K Ho v t27 := d28
      replace d_bag_ : OH K Ho v_bag_ bag_ g_bag_ := d_bag_
      replace d_counts_ := LV.mo d_counts_ e
      replace d_some_ := D.mo d_some_ e
      have es30 := es20.trans e
      first | obtain rfl := d_int d28 | cases d_int d28
      refine y_cons ?_
      refine y_op ?_
      refine y_var rfl ?_
      refine y_var rfl ?_
      refine y_ixL (LV.of d_some_) z hw (fun t31 w d32 hw => ?_)
      first | obtain rfl := d_int d32 | cases d_int d32
      refine y_cons ?_
      refine y_call ?_
      refine y_cons ?_
      refine y_var rfl ?_
      refine y_cons ?_
      refine y_op ?_
      refine y_var rfl ?_
      refine y_op ?_
      refine y_var rfl ?_
      refine y_var rfl ?_
      refine y_ixL (LV.of d_some_) z hw (fun t33 w d34 hw => ?_)
      first | obtain rfl := d_int d34 | cases d_int d34
      refine y_ixL (LV.sub d_counts_ (mgS mgE)) z hw (fun t35 w d36 hw => ?_)
      first | obtain rfl := d_int d36 | cases d_int d36
      refine y_nil ?_
      refine ⟨amb, _, _, _, _, _, _, rfl, z, d_bag_, (Dq.int _), ?_⟩
      refine run_mono2 hw (fun t37 bag_ hw v g_bag_ H Ho e z d38 d_bag_ => ?_)
      replace d38 : Z.D K Ho v t37 := d38
      replace d_bag_ : OH K Ho v_bag_ bag_ g_bag_ := d_bag_
      replace d_counts_ := LV.mo d_counts_ e
      replace d_some_ := D.mo d_some_ e
      have es40 := es30.trans e
      first | obtain rfl := d_int d38 | cases d_int d38
      refine y_nil ?_
      refine k_tupk (K := K) (x := (⟨t21, t27, t31, t37⟩ : (P4 Int Int Int Int))) z (by show 4 ≤ sizeLine; decide) _ rfl (DqAll.cons (Dq.int _) (DqAll.cons (Dq.int _) (DqAll.cons (Dq.int _) (DqAll.cons (Dq.int _) DqAll.nil)))) (fun p H Ho e z d41 => ?_)
      replace d_bag_ := OH.mo d_bag_ e
      replace d_counts_ := LV.mo d_counts_ e
      replace d_some_ := D.mo d_some_ e
      have es42 := es40.trans e
      exact (run_ret hw) _ _ _ _ es42 z (show Z.D K Ho _ (some (⟨t21, t27, t31, t37⟩ : (P4 Int Int Int Int))) from d41) d_bag_
def sp_law_record (K : PySem.W.Frag) (cl : Nat → Addr) : Sp := fun vs H Q E => ∃ (amb : Grp) (Ho : Hp) (v0 : V) (x0 : (H5 (List Int) Int Int Int Int)) (g0 : Grp) (v1 : V) (x1 : Int), vs = [v0, v1] ∧ Zs (g0 ++ amb) H Ho ∧ OH K Ho v0 x0 g0 ∧ Z.D K Ho v1 x1 ∧ (m_law_record x0 x1).run fun r => ∀ v g h0 H' Ho', Same Ho Ho' → Zs (g ++ (h0 ++ amb)) H' Ho' → OP K Ho' v r.1 g → OH K Ho' v0 r.2 h0 → Q v H'
abbrev s_law_record : Stmt := topS 23
theorem sc_law_record : FnScope ["bag", "great", "mode", "twice", "counts", "spots", "ties", "step", "note", "along"] ["bag", "great"] (defScope s_law_record) := ⟨rfl, rfl, rfl, by decide +kernel, rfl, by decide +kernel, by decide +kernel⟩
theorem ok_law_record {f : Addr} {fd : FuncData} (F : Fun K "_law_record" "_law_record" s_law_record f fd) {f_law_draw : Addr} {fd_law_draw : FuncData} (c_law_draw : Cal P w K mg base CX0 "_law_draw" ["bag", "many"] 2 (sp_law_draw K cl) f_law_draw fd_law_draw) {f_law_counts : Addr} {fd_law_counts : FuncData} (c_law_counts : Cal P w K mg base CX0 "_law_counts" ["bag", "great"] 3 (sp_law_counts K cl) f_law_counts fd_law_counts) {f_law_spots : Addr} {fd_law_spots : FuncData} (c_law_spots : Cal P w K mg base CX0 "_law_spots" ["order"] 1 (sp_law_spots K cl) f_law_spots fd_law_spots) {f_law_order : Addr} {fd_law_order : FuncData} (c_law_order : Cal P w K mg base CX0 "_law_order" ["bag", "counts"] 3 (sp_law_order K cl) f_law_order fd_law_order) {f_law_note : Addr} {fd_law_note : FuncData} (c_law_note : Cal P w K mg base CX0 "_law_note" ["bag", "counts"] 3 (sp_law_note K cl) f_law_note fd_law_note) (m_range : mg "range" = none) (m_len : mg "len" = none) :
    FnOk P w K mg base CX0 4 f fd ["bag", "great"] (sp_law_record K cl) := by
  refine F.ok sc_law_record (fun vs H Q E h => ?_) (fun cdv A outer s H vs Q E hr h => ?_)
  · obtain ⟨amb, Ho, v_bag_, bag_, g_bag_, v_great_, great_, rfl, _⟩ := h
    rfl
  · obtain ⟨amb, Ho, v_bag_, bag_, g_bag_, v_great_, great_, rfl, z, d_bag_, d_great_, hw⟩ := h
    refine ⟨_, pss_cons (ps_set (i := 2) sc_law_record.nd rfl (Or.inl rfl) (pe_call c_law_draw.ok (hr.mono (by decide)) (by rfl) c_law_draw.g c_law_draw.kp c_law_draw.b .nil pass0 (pa_cons (pv 0) (pa_cons (pe_int) (pa_nil))))) (pss_cons (ps_set (i := 3) sc_law_record.nd rfl (Or.inl rfl) (pe_call c_law_draw.ok (hr.mono (by decide)) (by rfl) c_law_draw.g c_law_draw.kp c_law_draw.b .nil pass0 (pa_cons (pv 0) (pa_cons (pe_int) (pa_nil))))) (pss_cons (ps_set (i := 4) sc_law_record.nd rfl (Or.inl rfl) (pe_call c_law_counts.ok (hr.mono (by decide)) (by rfl) c_law_counts.g c_law_counts.kp c_law_counts.b .nil pass0 (pa_cons (pv 0) (pa_cons (pv 1) (pa_nil))))) (pss_cons (ps_set (i := 5) sc_law_record.nd rfl (Or.inl rfl) (pe_call c_law_spots.ok (hr.mono (by decide)) (by rfl) c_law_spots.g c_law_spots.kp c_law_spots.b .nil pass0 (pa_cons (pe_call c_law_order.ok (hr.mono (by decide)) (by rfl) c_law_order.g c_law_order.kp c_law_order.b .nil pass0 (pa_cons (pv 0) (pa_cons (pv 4) (pa_nil)))) (pa_nil)))) (pss_cons (ps_set (i := 6) sc_law_record.nd rfl (Or.inl rfl) (pe_lst (pa_nil))) (pss_cons (ps_for PassesOwn.never rfl (pi_range1 (by rfl) m_range (pa_cons (pe_call c_law_draw.ok (hr.mono (by decide)) (by rfl) c_law_draw.g c_law_draw.kp c_law_draw.b .nil pass0 (pa_cons (pv 0) (pa_cons (pe_ix (zix_list (K := K) rfl) (pe_lst (pa_cons (pe_int) (pa_cons (pe_int) (pa_nil)))) (pv 1) (fun _ _ => rfl)) (pa_nil)))) (pa_nil))) (pg_name (i := 7) sc_law_record.nd rfl (Or.inl rfl)) (pss_cons (ps_set (i := 8) sc_law_record.nd rfl (Or.inl rfl) (pe_call c_law_note.ok (hr.mono (by decide)) (by rfl) c_law_note.g c_law_note.kp c_law_note.b .nil pass0 (pa_cons (pv 0) (pa_cons (pv 4) (pa_nil))))) (pss_cons (ps_set (i := 9) sc_law_record.nd rfl (Or.inl rfl) (pe_or (pe_cmpR (op_eq) (pv 2) (pe_int) (nomark _)) (pe_one (pe_and (pe_cmpR (op_eq) (pv 2) (pe_int) (nomark _)) (pe_one (pe_cmpR (op_gt) (pe_call c_law_draw.ok (hr.mono (by decide)) (by rfl) c_law_draw.g c_law_draw.kp c_law_draw.b .nil pass0 (pa_cons (pv 0) (pa_cons (pe_int) (pa_nil)))) (pe_int) (nomark _))))))) (pss_cons (ps_if (pt_cmpR (op_notN) (pv 8) (pe_non) (nomark _)) (pss_cons (ps_if (PW.pt (pw_and (pt_val (pv 9)) (pw_and1 (pt_cmpR (op_gt) (pe_dget (room1 hr) (pv 5) (pe_slice (zsl_tup (K := K) rfl) (pv 8) po_none (po_some (pe_int))) (fun _ _ => rfl)) (pe_dget (room1 hr) (pv 5) (pe_slice (zsl_tup (K := K) rfl) (pv 8) (po_some (pe_int)) po_none) (fun _ _ => rfl)) (nomark _))))) (pss_cons (ps_set (i := 8) sc_law_record.nd rfl (Or.inl rfl) (pe_op (zop_catT (K := K) rfl) (pe_slice (zsl_tup (K := K) rfl) (pv 8) (po_some (pe_int)) po_none) (pe_slice (zsl_tup (K := K) rfl) (pv 8) po_none (po_some (pe_int))))) (pss_nil)) (pss_nil)) (pss_cons (ps_expr (pe_bm PySem.F.plainAttrs_list PySem.F.slot_list_insert PySem.F.type_list_insert zmt_insert (pv 6) (pa_cons (pe_call c_law_draw.ok (hr.mono (by decide)) (by rfl) c_law_draw.g c_law_draw.kp c_law_draw.b .nil pass0 (pa_cons (pv 0) (pa_cons (pe_op op_add (pe_callB (zlen (K := K) rfl) (by rfl) m_len (by decide +kernel) (pa_cons (pv 6) (pa_nil))) (pe_int)) (pa_nil)))) (pa_cons (pv 8) (pa_nil))))) (pss_nil))) (pss_nil)) (pss_nil))))) (pss_cons (ps_if (PW.pt (pw_and (pt_cmpR (op_eq) (pv 3) (pe_int) (nomark _)) (pw_and1 (pt_cmpR (zop_neD (K := K) rfl hr.units) (pv 6) (pe_lst (pa_nil)) (nomark _))))) (pss_cons (ps_expr (pe_bm PySem.F.plainAttrs_list PySem.F.slot_list_insert PySem.F.type_list_insert zmt_insert (pv 6) (pa_cons (pe_call c_law_draw.ok (hr.mono (by decide)) (by rfl) c_law_draw.g c_law_draw.kp c_law_draw.b .nil pass0 (pa_cons (pv 0) (pa_cons (pe_op op_add (pe_callB (zlen (K := K) rfl) (by rfl) m_len (by decide +kernel) (pa_cons (pv 6) (pa_nil))) (pe_int)) (pa_nil)))) (pa_cons (pe_ix (zix_list (K := K) rfl) (pv 6) (pe_call c_law_draw.ok (hr.mono (by decide)) (by rfl) c_law_draw.g c_law_draw.kp c_law_draw.b .nil pass0 (pa_cons (pv 0) (pa_cons (pe_callB (zlen (K := K) rfl) (by rfl) m_len (by decide +kernel) (pa_cons (pv 6) (pa_nil))) (pa_nil)))) (fun _ _ => rfl)) (pa_nil))))) (pss_nil)) (pss_nil)) (pss_cons (ps_ret (pe_tup (pa_cons (pv 4) (pa_cons (pv 6) (pa_nil))))) (pss_nil)))))))), ?_⟩
    obtain rfl := d_int d_great_
    refine l_asg (fun v => [_, _, some v, _, _, _, _, _, _, _]) (fun _ => rfl) ?_
    refine y_call ?_
    refine y_cons ?_
    refine y_var rfl ?_
    refine y_cons ?_
    refine y_c ?_
    refine y_nil ?_
    refine ⟨amb, _, _, _, _, _, _, rfl, z, d_bag_, (Dq.int _), ?_⟩
    refine run_mono2 hw (fun t1 bag_ hw v g_bag_ H Ho e z d2 d_bag_ => ?_)
    replace d2 : Z.D K Ho v t1 := d2
    replace d_bag_ : OH K Ho v_bag_ bag_ g_bag_ := d_bag_
    have es4 := (Same.refl _).trans e
    first | obtain rfl := d_int d2 | cases d_int d2
    refine l_i hw (fun mode_ hw => ?_)
    refine l_asg (fun v => [_, _, _, some v, _, _, _, _, _, _]) (fun _ => rfl) ?_
    refine y_call ?_
    refine y_cons ?_
    refine y_var rfl ?_
    refine y_cons ?_
    refine y_c ?_
    refine y_nil ?_
    refine ⟨amb, _, _, _, _, _, _, rfl, z, d_bag_, (Dq.int _), ?_⟩
    refine run_mono2 hw (fun t5 bag_ hw v g_bag_ H Ho e z d6 d_bag_ => ?_)
    replace d6 : Z.D K Ho v t5 := d6
    replace d_bag_ : OH K Ho v_bag_ bag_ g_bag_ := d_bag_
    have es8 := es4.trans e
    first | obtain rfl := d_int d6 | cases d_int d6
    refine l_i hw (fun twice_ hw => ?_)
    refine l_asg (fun v => [_, _, _, _, some v, _, _, _, _, _]) (fun _ => rfl) ?_
    refine y_call ?_
    refine y_cons ?_
    refine y_var rfl ?_
    refine y_cons ?_
    refine y_var rfl ?_
    refine y_nil ?_
    refine ⟨amb, _, _, _, _, _, _, rfl, z, d_bag_, (Dq.int _), ?_⟩
    refine run_mono2 hw (fun t9 bag_ hw v g11 g_bag_ H Ho e z d10 d_bag_ => ?_)
    replace d10 : OL K Ho v t9 g11 := d10
    replace d_bag_ : OH K Ho v_bag_ bag_ g_bag_ := d_bag_
    have es12 := es8.trans e
    refine l_o hw z d10 (fun counts_ v_counts_ g_counts_ z d_counts_ hw => ?_)
    refine l_asg (fun v => [_, _, _, _, _, some v, _, _, _, _]) (fun _ => rfl) ?_
    refine y_call ?_
    refine y_cons ?_
    refine y_call ?_
    refine y_cons ?_
    refine y_var rfl ?_
    refine y_cons ?_
    refine y_var rfl ?_
    refine y_nil ?_
    replace z : Zs (g_bag_ ++ (g_counts_ ++ amb)) _ _ := z.go [g_counts_, g_bag_] amb [1, 0]
    refine ⟨(g_counts_ ++ amb), _, _, _, _, _, _, rfl, z, d_bag_, (OL.lv d_counts_ mg0), ?_⟩
    refine run_mono2 hw (fun t13 bag_ hw v g_bag_ H Ho e z d14 d_bag_ => ?_)
    replace d14 : Z.D K Ho v t13 := d14
    replace d_bag_ : OH K Ho v_bag_ bag_ g_bag_ := d_bag_
    replace d_counts_ := OL.mo d_counts_ e
    have es16 := es12.trans e
    refine y_nil ?_
    refine ⟨(g_bag_ ++ (g_counts_ ++ amb)), _, _, _, rfl, z, (LV.of d14), ?_⟩
    refine run_mono3 hw (fun t17 hw v g19 H Ho e z d18 => ?_)
    replace d_bag_ := OH.mo d_bag_ e
    replace d_counts_ := OL.mo d_counts_ e
    have es20 := es16.trans e
    refine d_o hw z d18 (fun spots_ v_spots_ g_spots_ z d_spots_ hw => ?_)
    refine l_asg (fun v => [_, _, _, _, _, _, some v, _, _, _]) (fun _ => rfl) ?_
    refine k_lst ?_
    refine y_nil ?_
    refine k_lstk (K := K) (xs := ([] : (List (P4 Int Int Int Int)))) z DqAll.nil (by show 0 ≤ sizeLine; decide) (fun H p21 ws22 z d23 => ?_)
    replace z : Zs ([(p21, HO.lst ws22)] ++ (g_spots_ ++ (g_bag_ ++ (g_counts_ ++ amb)))) H Ho := z
    have o24 := OL.mk (p := p21) d23
    refine l_o hw z o24 (fun ties_ v_ties_ g_ties_ z d_ties_ hw => ?_)
    refine y_for ?_
    refine k_iR1 ?_
    refine y_cons ?_
    refine y_call ?_
    refine y_cons ?_
    refine y_var rfl ?_
    refine y_cons ?_
    refine y_op ?_
    refine k_lst ?_
    refine y_cons ?_
    refine y_c ?_
    refine y_cons ?_
    refine y_c ?_
    refine y_nil ?_
    refine k_lstk (K := K) (xs := ([(13 : Int), (41 : Int)] : (List Int))) z (DqAll.cons (Dq.int _) (DqAll.cons (Dq.int _) DqAll.nil)) (by show 2 ≤ sizeLine; decide) (fun H p25 ws26 z d27 => ?_)
    replace z : Zs ([(p25, HO.lst ws26)] ++ (g_ties_ ++ (g_spots_ ++ (g_bag_ ++ (g_counts_ ++ amb))))) H Ho := z
    have o28 := OL.mk (p := p25) d27
    refine y_var rfl ?_
    refine y_ixL (OL.lv o28 mg0) z hw (fun t29 w d30 hw => ?_)
    first | obtain rfl := d_int d30 | cases d_int d30
    refine y_nil ?_
    replace z : Zs (g_bag_ ++ ([(p25, HO.lst ws26)] ++ (g_ties_ ++ (g_spots_ ++ (g_counts_ ++ amb))))) _ _ := z.go [[(p25, HO.lst ws26)], g_ties_, g_spots_, g_bag_, g_counts_] amb [3, 0, 1, 2, 4]
    refine ⟨([(p25, HO.lst ws26)] ++ (g_ties_ ++ (g_spots_ ++ (g_counts_ ++ amb)))), _, _, _, _, _, _, rfl, z, d_bag_, (Dq.int _), ?_⟩
    refine run_mono2 hw (fun t31 bag_ hw v g_bag_ H Ho e z d32 d_bag_ => ?_)
    replace d32 : Z.D K Ho v t31 := d32
    replace d_bag_ : OH K Ho v_bag_ bag_ g_bag_ := d_bag_
    replace d_counts_ := OL.mo d_counts_ e
    replace d_spots_ := OD.mo d_spots_ e
    replace d_ties_ := OL.mo d_ties_ e
    have es34 := es20.trans e
    first | obtain rfl := d_int d32 | cases d_int d32
    refine y_nil ?_
    refine k_srcR1 (K := K) (Ho := Ho) hw.1 (fun J T => ?_)
    replace hw := (run_gd hw).2
    refine y_forL T hw (fun (s : (H5 (List Int) Int Int Int Int) × (List (P4 Int Int Int Int))) (σ : L2.St) (H Ho : Hp) => ∃ (g_bag_ : Grp) (g_ties_ : Grp) (y_step_ : Option V) (y_note_ : Option V) (y_along_ : Option V), σ = [some v_bag_, some (V.int great_), some (V.int mode_), some (V.int twice_), some v_counts_, some v_spots_, some v_ties_, y_step_, y_note_, y_along_] ∧ Zs (g_bag_ ++ ([(p25, HO.lst ws26)] ++ (g_ties_ ++ (g_spots_ ++ (g_counts_ ++ amb))))) H Ho ∧ OH K Ho v_bag_ s.1 g_bag_ ∧ OL K Ho v_ties_ s.2 g_ties_) ⟨_, _, _, _, _, rfl, z, d_bag_, d_ties_⟩ ?_ ?_ ?_ ?_
    · intro s σ H Ho hI
      obtain ⟨bag_, ties_⟩ := s
      obtain ⟨g_bag_, g_ties_, y_step_, y_note_, y_along_, rfl, z, d_bag_, d_ties_⟩ := hI
      exact ⟨_, z, mgN⟩
    · intro s σ H Ho H2 Ho2 hI e t
      obtain ⟨bag_, ties_⟩ := s
      obtain ⟨g_bag_, g_ties_, y_step_, y_note_, y_along_, rfl, z, d_bag_, d_ties_⟩ := hI
      exact ⟨_, _, _, _, _, rfl, t _ z, OH.mo d_bag_ e, OL.mo d_ties_ e⟩
    · intro step_ v_step_ s σ H Ho N e hI d_step_ hw
      obtain ⟨bag_, ties_⟩ := s
      obtain ⟨g_bag_, g_ties_, y_step_, y_note_, y_along_, rfl, z, d_bag_, d_ties_⟩ := hI
      replace d_counts_ := OL.mo d_counts_ e
      replace d_spots_ := OD.mo d_spots_ e
      have es35 := es34.trans e
      obtain rfl := d_int d_step_
      refine y_gname (σ' := [some v_bag_, some (V.int great_), some (V.int mode_), some (V.int twice_), some v_counts_, some v_spots_, some v_ties_, some (V.int step_), y_note_, y_along_]) rfl ?_
      refine l_asg (fun v => [_, _, _, _, _, _, _, _, some v, _]) (fun _ => rfl) ?_
      refine y_call ?_
      refine y_cons ?_
      refine y_var rfl ?_
      refine y_cons ?_
      refine y_var rfl ?_
      refine y_nil ?_
      refine ⟨([(p25, HO.lst ws26)] ++ (g_ties_ ++ (g_spots_ ++ (g_counts_ ++ amb)))), _, _, _, _, _, _, rfl, z, d_bag_, (OL.lv d_counts_ (mgS (mgS (mgS mg0)))), ?_⟩
      refine run_mono2 hw (fun t36 bag_ hw v g_bag_ H Ho e z d37 d_bag_ => ?_)
      replace d37 : Z.D K Ho v t36 := d37
      replace d_bag_ : OH K Ho v_bag_ bag_ g_bag_ := d_bag_
      replace d_counts_ := OL.mo d_counts_ e
      replace d_spots_ := OD.mo d_spots_ e
      replace d_ties_ := OL.mo d_ties_ e
      have es39 := (Same.refl _).trans e
      refine l_d (K := K) (Ho := Ho) hw d37 (fun note_ v_note_ d_note_ hw => ?_)
      refine l_asg (fun v => [_, _, _, _, _, _, _, _, _, some v]) (fun _ => rfl) ?_
      refine y_orV ?_
      refine y_op ?_
      refine y_var rfl ?_
      refine y_c ?_
      refine y_eqi ?_
      refine ⟨_, rfl, ?_⟩
      refine w_orVJ hw (fun (s : Bool × (H5 (List Int) Int Int Int Int)) (v : V) (H2 : Hp) => ∃ (Ho2 : Hp) (g_bag_ : Grp), Same Ho Ho2 ∧ OH K Ho2 v_bag_ s.2 g_bag_ ∧ Zs (g_bag_ ++ ([(p25, HO.lst ws26)] ++ (g_ties_ ++ (g_spots_ ++ (g_counts_ ++ amb))))) H2 Ho2 ∧ v = V.bl s.1) (fun hb hw => ?_) (fun hb hw => ?_) ?_
      · exact (run_ret hw) _ _ ⟨_, _, (Same.refl _), d_bag_, z, rfl⟩
      · refine y_andV ?_
        refine y_op ?_
        refine y_var rfl ?_
        refine y_c ?_
        refine y_eqi ?_
        refine ⟨_, rfl, ?_⟩
        refine w_andVJ hw (fun (s : Bool × (H5 (List Int) Int Int Int Int)) (v : V) (H2 : Hp) => ∃ (Ho2 : Hp) (g_bag_ : Grp), Same Ho Ho2 ∧ OH K Ho2 v_bag_ s.2 g_bag_ ∧ Zs (g_bag_ ++ ([(p25, HO.lst ws26)] ++ (g_ties_ ++ (g_spots_ ++ (g_counts_ ++ amb))))) H2 Ho2 ∧ v = V.bl s.1) (fun hb hw => ?_) (fun hb hw => ?_) ?_
        · refine y_op ?_
          refine y_call ?_
          refine y_cons ?_
          refine y_var rfl ?_
          refine y_cons ?_
          refine y_c ?_
          refine y_nil ?_
          refine ⟨([(p25, HO.lst ws26)] ++ (g_ties_ ++ (g_spots_ ++ (g_counts_ ++ amb)))), _, _, _, _, _, _, rfl, z, d_bag_, (Dq.int _), ?_⟩
          refine run_mono2 hw (fun t40 bag_ hw v g_bag_ H Ho e z d41 d_bag_ => ?_)
          replace d41 : Z.D K Ho v t40 := d41
          replace d_bag_ : OH K Ho v_bag_ bag_ g_bag_ := d_bag_
          replace d_counts_ := OL.mo d_counts_ e
          replace d_note_ := D.mo d_note_ e
          replace d_spots_ := OD.mo d_spots_ e
          replace d_ties_ := OL.mo d_ties_ e
          have es43 := (Same.refl _).trans e
          first | obtain rfl := d_int d41 | cases d_int d41
          refine y_c ?_
          refine y_i0 ?_
          exact (run_ret hw) _ _ ⟨_, _, es43, d_bag_, z, rfl⟩
        · exact (run_ret hw) _ _ ⟨_, _, (Same.refl _), d_bag_, z, rfl⟩
        rintro ⟨t44, bag_⟩ v H ⟨Ho, g_bag_, e, d_bag_, z, rfl⟩ hw
        replace d_counts_ := OL.mo d_counts_ e
        replace d_note_ := D.mo d_note_ e
        replace d_spots_ := OD.mo d_spots_ e
        replace d_ties_ := OL.mo d_ties_ e
        have es47 := (Same.refl _).trans e
        exact (run_ret hw) _ _ ⟨_, _, es47, d_bag_, z, rfl⟩
      rintro ⟨t48, bag_⟩ v H ⟨Ho, g_bag_, e, d_bag_, z, rfl⟩ hw
      replace d_counts_ := OL.mo d_counts_ e
      replace d_note_ := D.mo d_note_ e
      replace d_spots_ := OD.mo d_spots_ e
      replace d_ties_ := OL.mo d_ties_ e
      have es51 := es39.trans e
      refine l_b hw (fun along_ hw => ?_)
      refine y_ifS ?_
      refine y_test ?_
      refine y_op ?_
      refine y_var rfl ?_
      refine y_c ?_
      refine ⟨rfl, ?_⟩
      rw [dec_non d_note_ hw.1, not_isNone]
      replace hw := (run_gd hw).2
      refine ⟨_, rfl, ?_⟩
      refine w_ifJ hw (fun (s : (H5 (List Int) Int Int Int Int) × (List (P4 Int Int Int Int)) × (Option (P4 Int Int Int Int))) (σ : L2.St) (H : Hp) => ∃ Ho2, Same Ho Ho2 ∧ (fun (s : (H5 (List Int) Int Int Int Int) × (List (P4 Int Int Int Int)) × (Option (P4 Int Int Int Int))) (σ : L2.St) (H Ho : Hp) => ∃ (g_bag_ : Grp) (g_ties_ : Grp) (v_note_ : V), σ = [some v_bag_, some (V.int great_), some (V.int mode_), some (V.int twice_), some v_counts_, some v_spots_, some v_ties_, some (V.int step_), some v_note_, some (V.bl along_)] ∧ Zs (g_bag_ ++ ([(p25, HO.lst ws26)] ++ (g_ties_ ++ (g_spots_ ++ (g_counts_ ++ amb))))) H Ho ∧ OH K Ho v_bag_ s.1 g_bag_ ∧ OL K Ho v_ties_ s.2.1 g_ties_ ∧ Z.D K Ho v_note_ s.2.2) s σ H Ho2) (fun hb hw => ?_) (fun hb hw => ?_) ?_
      · refine y_ifS ?_
        refine y_and ?_
        refine y_tB ?_
        refine y_var rfl ?_
        refine ⟨_, rfl, ?_⟩
        refine w_andJ hw (fun (s : Bool) (v : Bool) (H2 : Hp) => ∃ (Ho2 : Hp), Same Ho Ho2 ∧ Zs (g_bag_ ++ ([(p25, HO.lst ws26)] ++ (g_ties_ ++ (g_spots_ ++ (g_counts_ ++ amb))))) H2 Ho2 ∧ v = s) (fun hb hw => ?_) (fun hb hw => ?_) ?_
        · refine y_test ?_
          refine y_op ?_
          refine y_dget ?_
          refine y_var rfl ?_
          refine y_sl ?_
          refine y_var rfl ?_
          refine y_get d_note_ hw (fun t52 d53 hw => ?_)
          refine y_noPart ?_
          refine y_part ?_
          refine y_c ?_
          refine ⟨_, rfl, ?_⟩
          refine y_slT (y := (t52.a, t52.b)) d53 z ⟨_, rfl, by show ¬ (HT.sIx 4 0 none = 0 ∧ HT.sIx 4 4 (some (2 : Int)) = 4); decide, by rfl⟩ (fun p H Ho e z d54 => ?_)
          replace d_bag_ := OH.mo d_bag_ e
          replace d_counts_ := OL.mo d_counts_ e
          replace d_note_ := D.mo d_note_ e
          replace d_spots_ := OD.mo d_spots_ e
          replace d_ties_ := OL.mo d_ties_ e
          have es55 := (Same.refl _).trans e
          refine g_dget ⟨_, d_spots_, (mgS (mgS (mgS mg0)))⟩ z d54 hw (fun t56 w d57 hw => ?_)
          first | obtain rfl := d_int d57 | cases d_int d57
          refine y_dget ?_
          refine y_var rfl ?_
          refine y_sl ?_
          refine y_var rfl ?_
          refine y_get d_note_ hw (fun t58 d59 hw => ?_)
          refine y_part ?_
          refine y_c ?_
          refine ⟨_, rfl, ?_⟩
          refine y_noPart ?_
          refine y_slT (y := (t58.c, t58.d)) d59 z ⟨_, rfl, by show ¬ (HT.sIx 4 0 (some (2 : Int)) = 0 ∧ HT.sIx 4 4 none = 4); decide, by rfl⟩ (fun p H Ho e z d60 => ?_)
          replace d_bag_ := OH.mo d_bag_ e
          replace d_counts_ := OL.mo d_counts_ e
          replace d_note_ := D.mo d_note_ e
          replace d_spots_ := OD.mo d_spots_ e
          replace d_ties_ := OL.mo d_ties_ e
          have es61 := es55.trans e
          refine g_dget ⟨_, d_spots_, (mgS (mgS (mgS mg0)))⟩ z d60 hw (fun t62 w d63 hw => ?_)
          first | obtain rfl := d_int d63 | cases d_int d63
          refine y_i0 ?_
          refine ⟨_, rfl, ?_⟩
          exact (run_ret hw) _ _ ⟨_, es61, z, rfl⟩
        · exact (run_ret hw) _ _ ⟨_, (Same.refl _), z, rfl⟩
        rintro t64 v H ⟨Ho, e, z, rfl⟩ hw
        replace d_bag_ := OH.mo d_bag_ e
        replace d_counts_ := OL.mo d_counts_ e
        replace d_note_ := D.mo d_note_ e
        replace d_spots_ := OD.mo d_spots_ e
        replace d_ties_ := OL.mo d_ties_ e
        have es67 := (Same.refl _).trans e
        refine w_ifJ hw (fun (s : (Option (P4 Int Int Int Int))) (σ : L2.St) (H : Hp) => ∃ Ho2, Same Ho Ho2 ∧ (fun (s : (Option (P4 Int Int Int Int))) (σ : L2.St) (H Ho : Hp) => ∃ (v_note_ : V), σ = [some v_bag_, some (V.int great_), some (V.int mode_), some (V.int twice_), some v_counts_, some v_spots_, some v_ties_, some (V.int step_), some v_note_, some (V.bl along_)] ∧ Zs (g_bag_ ++ ([(p25, HO.lst ws26)] ++ (g_ties_ ++ (g_spots_ ++ (g_counts_ ++ amb))))) H Ho ∧ Z.D K Ho v_note_ s) s σ H Ho2) (fun hb hw => ?_) (fun hb hw => ?_) ?_
        · refine l_asg (fun v => [_, _, _, _, _, _, _, _, some v, _]) (fun _ => rfl) ?_
          refine y_op ?_
          refine y_sl ?_
          refine y_var rfl ?_
          refine y_get d_note_ hw (fun t68 d69 hw => ?_)
          refine y_part ?_
          refine y_c ?_
          refine ⟨_, rfl, ?_⟩
          refine y_noPart ?_
          refine y_slT (y := (t68.c, t68.d)) d69 z ⟨_, rfl, by show ¬ (HT.sIx 4 0 (some (2 : Int)) = 0 ∧ HT.sIx 4 4 none = 4); decide, by rfl⟩ (fun p H Ho e z d70 => ?_)
          replace d_bag_ := OH.mo d_bag_ e
          replace d_counts_ := OL.mo d_counts_ e
          replace d_note_ := D.mo d_note_ e
          replace d_spots_ := OD.mo d_spots_ e
          replace d_ties_ := OL.mo d_ties_ e
          have es71 := (Same.refl _).trans e
          refine y_sl ?_
          refine y_var rfl ?_
          refine y_get d_note_ hw (fun t72 d73 hw => ?_)
          refine y_noPart ?_
          refine y_part ?_
          refine y_c ?_
          refine ⟨_, rfl, ?_⟩
          refine y_slT (y := (t72.a, t72.b)) d73 z ⟨_, rfl, by show ¬ (HT.sIx 4 0 none = 0 ∧ HT.sIx 4 4 (some (2 : Int)) = 4); decide, by rfl⟩ (fun p H Ho e z d74 => ?_)
          replace d_bag_ := OH.mo d_bag_ e
          replace d_counts_ := OL.mo d_counts_ e
          replace d_note_ := D.mo d_note_ e
          replace d_spots_ := OD.mo d_spots_ e
          replace d_ties_ := OL.mo d_ties_ e
          replace d70 := D.mo d70 e
          have es75 := es71.trans e
          refine y_cat22 d70 d74 z (fun p H Ho e z d76 => ?_)
          replace d_bag_ := OH.mo d_bag_ e
          replace d_counts_ := OL.mo d_counts_ e
          replace d_note_ := D.mo d_note_ e
          replace d_spots_ := OD.mo d_spots_ e
          replace d_ties_ := OL.mo d_ties_ e
          have es77 := es75.trans e
          refine l_d (K := K) (Ho := Ho) hw (show Z.D K Ho _ (some (⟨(t68.c, t68.d).1, (t68.c, t68.d).2, (t72.a, t72.b).1, (t72.a, t72.b).2⟩ : (P4 Int Int Int Int))) from d76) (fun note_ v_note_ d_note_ hw => ?_)
          exact (run_ret hw) _ _ ⟨_, es77, ⟨_, rfl, z, d_note_⟩⟩
        · refine y_nxS ?_
          exact (run_ret hw) _ _ ⟨_, (Same.refl _), ⟨_, rfl, z, d_note_⟩⟩
        rintro note_ σ H ⟨Ho, e, v_note_, rfl, z, d_note_⟩ hw
        replace d_bag_ := OH.mo d_bag_ e
        replace d_counts_ := OL.mo d_counts_ e
        replace d_spots_ := OD.mo d_spots_ e
        replace d_ties_ := OL.mo d_ties_ e
        have es78 := es67.trans e
        refine y_drop ?_
        refine y_bm ?_
        refine y_var rfl ?_
        refine g_tyL (OL.lv d_ties_ (mgS (mgS mg0))) z ?_
        refine y_cons ?_
        refine y_call ?_
        refine y_cons ?_
        refine y_var rfl ?_
        refine y_cons ?_
        refine y_op ?_
        refine y_cb ?_
        refine y_cons ?_
        refine y_var rfl ?_
        refine y_nil ?_
        refine y_len (OL.lv d_ties_ (mgS (mgS mg0))) z ?_
        refine y_c ?_
        refine y_i0 ?_
        refine y_nil ?_
        refine ⟨([(p25, HO.lst ws26)] ++ (g_ties_ ++ (g_spots_ ++ (g_counts_ ++ amb)))), _, _, _, _, _, _, rfl, z, d_bag_, (Dq.int _), ?_⟩
        refine run_mono2 hw (fun t79 bag_ hw v g_bag_ H Ho e z d80 d_bag_ => ?_)
        replace d80 : Z.D K Ho v t79 := d80
        replace d_bag_ : OH K Ho v_bag_ bag_ g_bag_ := d_bag_
        replace d_counts_ := OL.mo d_counts_ e
        replace d_note_ := D.mo d_note_ e
        replace d_spots_ := OD.mo d_spots_ e
        replace d_ties_ := OL.mo d_ties_ e
        have es82 := es78.trans e
        first | obtain rfl := d_int d80 | cases d_int d80
        refine y_cons ?_
        refine y_var rfl ?_
        refine y_get d_note_ hw (fun t83 d84 hw => ?_)
        refine y_nil ?_
        replace z : Zs (g_ties_ ++ (g_bag_ ++ ([(p25, HO.lst ws26)] ++ (g_spots_ ++ (g_counts_ ++ amb))))) _ _ := z.go [g_bag_, [(p25, HO.lst ws26)], g_ties_, g_spots_, g_counts_] amb [2, 0, 1, 3, 4]
        refine k_ins z d_ties_ d84 hw (fun ties_ g_ties_ H z d_ties_ hw => ?_)
        replace z : Zs (g_bag_ ++ ([(p25, HO.lst ws26)] ++ (g_ties_ ++ (g_spots_ ++ (g_counts_ ++ amb))))) _ _ := z.go [g_ties_, g_bag_, [(p25, HO.lst ws26)], g_spots_, g_counts_] amb [1, 2, 0, 3, 4]
        exact (run_ret hw) _ _ ⟨_, es82, ⟨_, _, _, rfl, z, d_bag_, d_ties_, d_note_⟩⟩
      · refine y_nxS ?_
        exact (run_ret hw) _ _ ⟨_, (Same.refl _), ⟨_, _, _, rfl, z, d_bag_, d_ties_, d_note_⟩⟩
      rintro ⟨bag_, ties_, note_⟩ σ H ⟨Ho, e, g_bag_, g_ties_, v_note_, rfl, z, d_bag_, d_ties_, d_note_⟩ hw
      replace d_counts_ := OL.mo d_counts_ e
      replace d_spots_ := OD.mo d_spots_ e
      have es85 := es51.trans e
      exact (run_ret hw) _ _ _ es85 ⟨_, _, _, _, _, rfl, z, d_bag_, d_ties_⟩
    intro s σ H Ho e hI hw
    obtain ⟨bag_, ties_⟩ := s
    obtain ⟨g_bag_, g_ties_, y_step_, y_note_, y_along_, rfl, z, d_bag_, d_ties_⟩ := hI
    replace d_counts_ := OL.mo d_counts_ e
    replace d_spots_ := OD.mo d_spots_ e
    have es86 := es34.trans e
    replace z : Zs (g_bag_ ++ (g_ties_ ++ (g_spots_ ++ (g_counts_ ++ amb)))) _ _ := z.go [g_bag_, [(p25, HO.lst ws26)], g_ties_, g_spots_, g_counts_] amb [0, 2, 3, 4]
    refine y_ifS ?_
    refine y_and ?_
    refine y_test ?_
    refine y_op ?_
    refine y_var rfl ?_
    refine y_c ?_
    refine y_eqi ?_
    refine ⟨_, rfl, ?_⟩
    refine w_andJ hw (fun (s : Bool) (v : Bool) (H2 : Hp) => ∃ (Ho2 : Hp), Same Ho Ho2 ∧ Zs (g_bag_ ++ (g_ties_ ++ (g_spots_ ++ (g_counts_ ++ amb)))) H2 Ho2 ∧ v = s) (fun hb hw => ?_) (fun hb hw => ?_) ?_
    · refine y_test ?_
      refine y_op ?_
      refine y_var rfl ?_
      refine k_lst ?_
      refine y_nil ?_
      refine k_lstk (K := K) (xs := ([] : (List (P4 Int Int Int Int)))) z DqAll.nil (by show 0 ≤ sizeLine; decide) (fun H p87 ws88 z d89 => ?_)
      replace z : Zs ([(p87, HO.lst ws88)] ++ (g_bag_ ++ (g_ties_ ++ (g_spots_ ++ (g_counts_ ++ amb))))) H Ho := z
      have o90 := OL.mk (p := p87) d89
      refine y_neD (LV.dp (OL.lv d_ties_ (mgS (mgS mg0))) z) (LV.dp (OL.lv o90 mg0) z) hw.1 ?_
      replace hw := (run_gd hw).2
      refine ⟨_, rfl, ?_⟩
      replace z : Zs (g_bag_ ++ (g_ties_ ++ (g_spots_ ++ (g_counts_ ++ amb)))) _ _ := z.go [[(p87, HO.lst ws88)], g_bag_, g_ties_, g_spots_, g_counts_] amb [1, 2, 3, 4]
      exact (run_ret hw) _ _ ⟨_, (Same.refl _), z, rfl⟩
    · exact (run_ret hw) _ _ ⟨_, (Same.refl _), z, rfl⟩
    rintro t91 v H ⟨Ho, e, z, rfl⟩ hw
    replace d_bag_ := OH.mo d_bag_ e
    replace d_counts_ := OL.mo d_counts_ e
    replace d_spots_ := OD.mo d_spots_ e
    replace d_ties_ := OL.mo d_ties_ e
    have es94 := es86.trans e
    refine w_ifJ hw (fun (s : (H5 (List Int) Int Int Int Int) × (List (P4 Int Int Int Int))) (σ : L2.St) (H : Hp) => ∃ Ho2, Same Ho Ho2 ∧ (fun (s : (H5 (List Int) Int Int Int Int) × (List (P4 Int Int Int Int))) (σ : L2.St) (H Ho : Hp) => ∃ (g_bag_ : Grp) (g_ties_ : Grp), σ = [some v_bag_, some (V.int great_), some (V.int mode_), some (V.int twice_), some v_counts_, some v_spots_, some v_ties_, y_step_, y_note_, y_along_] ∧ Zs (g_bag_ ++ (g_ties_ ++ (g_spots_ ++ (g_counts_ ++ amb)))) H Ho ∧ OH K Ho v_bag_ s.1 g_bag_ ∧ OL K Ho v_ties_ s.2 g_ties_) s σ H Ho2) (fun hb hw => ?_) (fun hb hw => ?_) ?_
    · refine y_drop ?_
      refine y_bm ?_
      refine y_var rfl ?_
      refine g_tyL (OL.lv d_ties_ (mgS mg0)) z ?_
      refine y_cons ?_
      refine y_call ?_
      refine y_cons ?_
      refine y_var rfl ?_
      refine y_cons ?_
      refine y_op ?_
      refine y_cb ?_
      refine y_cons ?_
      refine y_var rfl ?_
      refine y_nil ?_
      refine y_len (OL.lv d_ties_ (mgS mg0)) z ?_
      refine y_c ?_
      refine y_i0 ?_
      refine y_nil ?_
      refine ⟨(g_ties_ ++ (g_spots_ ++ (g_counts_ ++ amb))), _, _, _, _, _, _, rfl, z, d_bag_, (Dq.int _), ?_⟩
      refine run_mono2 hw (fun t95 bag_ hw v g_bag_ H Ho e z d96 d_bag_ => ?_)
      replace d96 : Z.D K Ho v t95 := d96
      replace d_bag_ : OH K Ho v_bag_ bag_ g_bag_ := d_bag_
      replace d_counts_ := OL.mo d_counts_ e
      replace d_spots_ := OD.mo d_spots_ e
      replace d_ties_ := OL.mo d_ties_ e
      have es98 := (Same.refl _).trans e
      first | obtain rfl := d_int d96 | cases d_int d96
      refine y_cons ?_
      refine y_op ?_
      refine y_var rfl ?_
      refine y_call ?_
      refine y_cons ?_
      refine y_var rfl ?_
      refine y_cons ?_
      refine y_cb ?_
      refine y_cons ?_
      refine y_var rfl ?_
      refine y_nil ?_
      refine y_len (OL.lv d_ties_ (mgS mg0)) z ?_
      refine y_nil ?_
      refine ⟨(g_ties_ ++ (g_spots_ ++ (g_counts_ ++ amb))), _, _, _, _, _, _, rfl, z, d_bag_, (Dq.int _), ?_⟩
      refine run_mono2 hw (fun t99 bag_ hw v g_bag_ H Ho e z d100 d_bag_ => ?_)
      replace d100 : Z.D K Ho v t99 := d100
      replace d_bag_ : OH K Ho v_bag_ bag_ g_bag_ := d_bag_
      replace d_counts_ := OL.mo d_counts_ e
      replace d_spots_ := OD.mo d_spots_ e
      replace d_ties_ := OL.mo d_ties_ e
      have es102 := es98.trans e
      first | obtain rfl := d_int d100 | cases d_int d100
      refine y_ixL (OL.lv d_ties_ (mgS mg0)) z hw (fun t103 w d104 hw => ?_)
      refine y_nil ?_
      replace z : Zs (g_ties_ ++ (g_bag_ ++ (g_spots_ ++ (g_counts_ ++ amb)))) _ _ := z.go [g_bag_, g_ties_, g_spots_, g_counts_] amb [1, 0, 2, 3]
      refine k_ins z d_ties_ d104 hw (fun ties_ g_ties_ H z d_ties_ hw => ?_)
      replace z : Zs (g_bag_ ++ (g_ties_ ++ (g_spots_ ++ (g_counts_ ++ amb)))) _ _ := z.go [g_ties_, g_bag_, g_spots_, g_counts_] amb [1, 0, 2, 3]
      exact (run_ret hw) _ _ ⟨_, es102, ⟨_, _, rfl, z, d_bag_, d_ties_⟩⟩
    · refine y_nxS ?_
      exact (run_ret hw) _ _ ⟨_, (Same.refl _), ⟨_, _, rfl, z, d_bag_, d_ties_⟩⟩
    rintro ⟨bag_, ties_⟩ σ H ⟨Ho, e, g_bag_, g_ties_, rfl, z, d_bag_, d_ties_⟩ hw
    replace d_counts_ := OL.mo d_counts_ e
    replace d_spots_ := OD.mo d_spots_ e
    have es105 := es94.trans e
    refine y_ret ?_
    refine k_tup ?_
    refine y_cons ?_
    refine y_var rfl ?_
    refine y_cons ?_
    refine y_var rfl ?_
    refine y_nil ?_
    refine p_tupk z (fun p H Ho e z t106 => ?_)
    replace d_bag_ := OH.mo d_bag_ e
    replace d_spots_ := OD.mo d_spots_ e
    replace d_counts_ := OL.mo d_counts_ e
    replace d_ties_ := OL.mo d_ties_ e
    have es107 := es105.trans e
    replace z : Zs (g_counts_ ++ (g_ties_ ++ (g_bag_ ++ (g_spots_ ++ amb)))) _ _ := z.go [g_bag_, g_ties_, g_spots_, g_counts_] amb [3, 1, 0, 2]
    refine p_close t106 d_counts_ d_ties_ z (fun g108 d109 z => ?_)
    replace z : Zs (g108 ++ (g_bag_ ++ amb)) _ _ := z.go [g108, g_bag_, g_spots_] amb [0, 1]
    exact (run_ret hw) _ _ _ _ _ es107 z d109 d_bag_
def sp_law_copy (K : PySem.W.Frag) (cl : Nat → Addr) : Sp := fun vs H Q E => ∃ (amb : Grp) (Ho : Hp) (v0 : V) (x0 : ((List Int) × (List (P4 Int Int Int Int)))), vs = [v0] ∧ Zs amb H Ho ∧ LP K amb Ho v0 x0 ∧ (m_law_copy x0).run fun r => ∀ v g H' Ho', Same Ho Ho' → Zs (g ++ amb) H' Ho' → OP K Ho' v r g → Q v H'
abbrev s_law_copy : Stmt := topS 24
theorem sc_law_copy : FnScope ["record"] ["record"] (defScope s_law_copy) := ⟨rfl, rfl, rfl, by decide +kernel, rfl, by decide +kernel, by decide +kernel⟩
theorem ok_law_copy {f : Addr} {fd : FuncData} (F : Fun K "_law_copy" "_law_copy" s_law_copy f fd) (m_list : mg "list" = none) :
    FnOk P w K mg base CX0 1 f fd ["record"] (sp_law_copy K cl) := by
  refine F.ok sc_law_copy (fun vs H Q E h => ?_) (fun cdv A outer s H vs Q E hr h => ?_)
  · obtain ⟨amb, Ho, v_record_, record_, rfl, _⟩ := h
    rfl
  · obtain ⟨amb, Ho, v_record_, record_, rfl, z, d_record_, hw⟩ := h
    refine ⟨_, pss_cons (ps_ret (pe_tup (pa_cons (pe_callTy (zlist (K := K) rfl) (by rfl) m_list (by decide +kernel) (pa_cons (pe_ix (zix_tup (K := K) rfl) (pv 0) (pe_int) (fun _ _ => rfl)) (pa_nil))) (pa_cons (pe_callTy (zlist (K := K) rfl) (by rfl) m_list (by decide +kernel) (pa_cons (pe_ix (zix_tup (K := K) rfl) (pv 0) (pe_int) (fun _ _ => rfl)) (pa_nil))) (pa_nil))))) (pss_nil), ?_⟩
    obtain ⟨v_record__0_, v_record__1_, t_record_, d_record__0_, d_record__1_⟩ := d_record_
    refine h_nmG (P := fun x => LV K amb Ho v_record__0_ x) hw d_record__0_ (fun record__0_ d_record__0_ hw => ?_)
    refine h_nmG (P := fun x => LV K amb Ho v_record__1_ x) hw d_record__1_ (fun record__1_ d_record__1_ hw => ?_)
    refine y_ret ?_
    refine k_tup ?_
    refine y_cons ?_
    refine y_cb ?_
    refine y_cons ?_
    refine y_op ?_
    refine y_var rfl ?_
    refine y_c ?_
    refine p_ix0 t_record_ z ?_
    refine y_nil ?_
    refine y_list (LV.sub d_record__0_ mgE) z (fun H p1 ws2 z d3 => ?_)
    replace z : Zs ([(p1, HO.lst ws2)] ++ amb) H Ho := z
    have o4 := OL.mk (p := p1) d3
    refine y_cons ?_
    refine y_cb ?_
    refine y_cons ?_
    refine y_op ?_
    refine y_var rfl ?_
    refine y_c ?_
    refine p_ix1 t_record_ z ?_
    refine y_nil ?_
    refine y_list (LV.sub d_record__1_ (mgS mgE)) z (fun H p5 ws6 z d7 => ?_)
    replace z : Zs ([(p5, HO.lst ws6)] ++ ([(p1, HO.lst ws2)] ++ amb)) H Ho := z
    have o8 := OL.mk (p := p5) d7
    refine y_nil ?_
    refine p_tupk z (fun p H Ho e z t9 => ?_)
    replace t_record_ := TupAt.mo t_record_ e
    replace d_record__0_ := LV.mo d_record__0_ e
    replace d_record__1_ := LV.mo d_record__1_ e
    replace o4 := OL.mo o4 e
    replace o8 := OL.mo o8 e
    have es10 := (Same.refl _).trans e
    replace z : Zs ([(p1, HO.lst ws2)] ++ ([(p5, HO.lst ws6)] ++ amb)) _ _ := z.go [[(p5, HO.lst ws6)], [(p1, HO.lst ws2)]] amb [1, 0]
    refine p_close t9 o4 o8 z (fun g11 d12 z => ?_)
    exact (run_ret hw) _ _ _ _ es10 z d12
def sp_law_ring_in (K : PySem.W.Frag) (cl : Nat → Addr) : Sp := fun vs H Q E => ∃ (amb : Grp) (Ho : Hp) (v0 : V) (x0 : (H5 (List Int) Int Int Int Int)) (g0 : Grp) (v1 : V) (x1 : ((List Int) × (List (P4 Int Int Int Int)))) (g1 : Grp) (v2 : V) (x2 : Bool), vs = [v0, v1, v2] ∧ Zs (g0 ++ (g1 ++ amb)) H Ho ∧ OH K Ho v0 x0 g0 ∧ OP K Ho v1 x1 g1 ∧ Z.D K Ho v2 x2 ∧ (m_law_ring_in x0 x1 x2).run fun r => ∀ v h0 h1 H' Ho', Same Ho Ho' → Zs (h0 ++ (h1 ++ amb)) H' Ho' → Z.D K Ho' v r.1 → OH K Ho' v0 r.2.1 h0 → OP K Ho' v1 r.2.2 h1 → Q v H'
abbrev s_law_ring_in : Stmt := topS 25
theorem sc_law_ring_in : FnScope ["bag", "record", "near", "counts", "ties", "some", "hand", "hands", "step", "leaves", "comes", "k", "at", "loop", "j", "to"] ["bag", "record", "near"] (defScope s_law_ring_in) := ⟨rfl, rfl, rfl, by decide +kernel, rfl, by decide +kernel, by decide +kernel⟩
theorem ok_law_ring_in {f : Addr} {fd : FuncData} (F : Fun K "_law_ring_in" "_law_ring_in" s_law_ring_in f fd) {f_law_draw : Addr} {fd_law_draw : FuncData} (c_law_draw : Cal P w K mg base CX0 "_law_draw" ["bag", "many"] 2 (sp_law_draw K cl) f_law_draw fd_law_draw) (m_len : mg "len" = none) (m_range : mg "range" = none) :
    FnOk P w K mg base CX0 3 f fd ["bag", "record", "near"] (sp_law_ring_in K cl) := by
  refine F.ok sc_law_ring_in (fun vs H Q E h => ?_) (fun cdv A outer s H vs Q E hr h => ?_)
  · obtain ⟨amb, Ho, v_bag_, bag_, g_bag_, v_record_, record_, g_record_, v_near_, near_, rfl, _⟩ := h
    rfl
  · obtain ⟨amb, Ho, v_bag_, bag_, g_bag_, v_record_, record_, g_record_, v_near_, near_, rfl, z, d_bag_, d_record_, d_near_, hw⟩ := h
    refine ⟨_, pss_cons (ps_asg (pv 1) (zpg_tup (K := K) (n := 2) rfl rfl (pgs_cons (pg_name (i := 3) sc_law_ring_in.nd rfl (Or.inr rfl)) (pgs_cons (pg_name (i := 4) sc_law_ring_in.nd rfl (Or.inl rfl)) (pgs_nil))))) (pss_cons (ps_setLc (i := 5) (own := [("hand", 6)]) rfl sc_law_ring_in.nd rfl rfl (sw_true rfl rfl rfl (by decide +kernel)) (pi_range1 (by rfl) m_range (pa_cons (pe_callB (zlen (K := K) rfl) (by rfl) m_len (by decide +kernel) (pa_cons (pv 3) (pa_nil))) (pa_nil))) (blkOk_by (N := ["bag", "record", "near", "counts", "ties", "some", "hand", "hands", "step", "leaves", "comes", "k", "at", "loop", "j", "to"]) (sc := defScope s_law_ring_in) (by decide +kernel)) (fun _ _ _ _ _ => pg_name (i := 6) sc_law_ring_in.nd rfl (Or.inl rfl)) (fun _ _ _ _ _ => pts_one (pt_cmpR (op_gt) (pe_ix (zix_list (K := K) rfl) (pv 3) (pv 6) (fun _ _ => rfl)) (pe_int) (nomark _))) (fun _ _ _ _ _ => pv 6)) (pss_cons (ps_if (pt_cmpR (op_lt) (pe_callB (zlen (K := K) rfl) (by rfl) m_len (by decide +kernel) (pa_cons (pv 5) (pa_nil))) (pe_int) (nomark _)) (pss_cons (ps_ret (pe_lst (pa_nil))) (pss_nil)) (pss_nil)) (pss_cons (ps_set (i := 7) sc_law_ring_in.nd rfl (Or.inl rfl) (pe_lst (pa_nil))) (pss_cons (ps_for PassesOwn.never rfl (pi_range1 (by rfl) m_range (pa_cons (pe_op op_add (pe_int) (pe_call c_law_draw.ok (hr.mono (by decide)) (by rfl) c_law_draw.g c_law_draw.kp c_law_draw.b .nil pass0 (pa_cons (pv 0) (pa_cons (pe_op op_sub (pe_callB (zlen (K := K) rfl) (by rfl) m_len (by decide +kernel) (pa_cons (pv 5) (pa_nil))) (pe_int)) (pa_nil))))) (pa_nil))) (pg_name (i := 8) sc_law_ring_in.nd rfl (Or.inl rfl)) (pss_cons (ps_expr (pe_bm PySem.F.plainAttrs_list PySem.F.slot_list_append PySem.F.type_list_append mt_append (pv 7) (pa_cons (pe_bm PySem.F.plainAttrs_list PySem.F.slot_list_pop PySem.F.type_list_pop mt_popAt (pv 5) (pa_cons (pe_call c_law_draw.ok (hr.mono (by decide)) (by rfl) c_law_draw.g c_law_draw.kp c_law_draw.b .nil pass0 (pa_cons (pv 0) (pa_cons (pe_callB (zlen (K := K) rfl) (by rfl) m_len (by decide +kernel) (pa_cons (pv 5) (pa_nil))) (pa_nil)))) (pa_nil))) (pa_nil)))) (pss_nil))) (pss_cons (ps_setLc (i := 9) (own := [("hand", 6)]) rfl sc_law_ring_in.nd rfl rfl (sw_true rfl rfl rfl (by decide +kernel)) (zpi_list (K := K) rfl (pv 7)) (blkOk_by (N := ["bag", "record", "near", "counts", "ties", "some", "hand", "hands", "step", "leaves", "comes", "k", "at", "loop", "j", "to"]) (sc := defScope s_law_ring_in) (by decide +kernel)) (fun _ _ _ _ _ => pg_name (i := 6) sc_law_ring_in.nd rfl (Or.inl rfl)) (fun _ _ _ _ _ => pts_nil) (fun _ _ _ _ _ => pe_call c_law_draw.ok (hr.mono (by decide)) (by rfl) c_law_draw.g c_law_draw.kp c_law_draw.b .nil pass0 (pa_cons (pv 0) (pa_cons (pe_ix (zix_list (K := K) rfl) (pv 3) (pv 6) (fun _ _ => rfl)) (pa_nil))))) (pss_cons (ps_setLc (i := 10) (own := [("k", 11)]) rfl sc_law_ring_in.nd rfl rfl (sw_true rfl rfl rfl (by decide +kernel)) (zpi_list (K := K) rfl (pv 9)) (blkOk_by (N := ["bag", "record", "near", "counts", "ties", "some", "hand", "hands", "step", "leaves", "comes", "k", "at", "loop", "j", "to"]) (sc := defScope s_law_ring_in) (by decide +kernel)) (fun _ _ _ _ _ => pg_name (i := 11) sc_law_ring_in.nd rfl (Or.inl rfl)) (fun _ _ _ _ _ => pts_nil) (fun _ _ _ _ _ => pe_call c_law_draw.ok (hr.mono (by decide)) (by rfl) c_law_draw.g c_law_draw.kp c_law_draw.b .nil pass0 (pa_cons (pv 0) (pa_cons (pe_op op_add (pv 11) (pe_int)) (pa_nil))))) (pss_cons (ps_set (i := 12) sc_law_ring_in.nd rfl (Or.inl rfl) (pe_call c_law_draw.ok (hr.mono (by decide)) (by rfl) c_law_draw.g c_law_draw.kp c_law_draw.b .nil pass0 (pa_cons (pv 0) (pa_cons (pe_callB (zlen (K := K) rfl) (by rfl) m_len (by decide +kernel) (pa_cons (pv 7) (pa_nil))) (pa_nil))))) (pss_cons (ps_if (PW.pt (pw_and (pt_val (pv 2)) (pw_and1 (pt_cmpR (op_lt) (pe_op op_add (pe_ix (zix_list (K := K) rfl) (pv 9) (pv 12) (fun _ _ => rfl)) (pe_int)) (pe_ix (zix_list (K := K) rfl) (pv 3) (pe_ix (zix_list (K := K) rfl) (pv 7) (pv 12) (fun _ _ => rfl)) (fun _ _ => rfl)) (nomark _))))) (pss_cons (ps_asg (pe_op op_add (pe_ix (zix_list (K := K) rfl) (pv 9) (pv 12) (fun _ _ => rfl)) (pe_int)) (pg_sub (pv 10) (pv 12) set_list)) (pss_nil)) (pss_nil)) (pss_cons (ps_set (i := 13) sc_law_ring_in.nd rfl (Or.inl rfl) (pe_lst (pa_nil))) (pss_cons (ps_for PassesOwn.never rfl (pi_range1 (by rfl) m_range (pa_cons (pe_callB (zlen (K := K) rfl) (by rfl) m_len (by decide +kernel) (pa_cons (pv 7) (pa_nil))) (pa_nil))) (pg_name (i := 14) sc_law_ring_in.nd rfl (Or.inl rfl)) (pss_cons (ps_set (i := 15) sc_law_ring_in.nd rfl (Or.inl rfl) (pe_op op_mod (pe_op op_add (pv 14) (pe_int)) (pe_callB (zlen (K := K) rfl) (by rfl) m_len (by decide +kernel) (pa_cons (pv 7) (pa_nil))))) (pss_cons (ps_expr (pe_bm PySem.F.plainAttrs_list PySem.F.slot_list_append PySem.F.type_list_append mt_append (pv 13) (pa_cons (pe_tup (pa_cons (pe_ix (zix_list (K := K) rfl) (pv 7) (pv 14) (fun _ _ => rfl)) (pa_cons (pe_ix (zix_list (K := K) rfl) (pv 9) (pv 14) (fun _ _ => rfl)) (pa_cons (pe_ix (zix_list (K := K) rfl) (pv 7) (pv 15) (fun _ _ => rfl)) (pa_cons (pe_ix (zix_list (K := K) rfl) (pv 10) (pv 15) (fun _ _ => rfl)) (pa_nil)))))) (pa_nil)))) (pss_cons (ps_expr (pe_bm PySem.F.plainAttrs_list PySem.F.slot_list_insert PySem.F.type_list_insert zmt_insert (pv 4) (pa_cons (pe_call c_law_draw.ok (hr.mono (by decide)) (by rfl) c_law_draw.g c_law_draw.kp c_law_draw.b .nil pass0 (pa_cons (pv 0) (pa_cons (pe_op op_add (pe_callB (zlen (K := K) rfl) (by rfl) m_len (by decide +kernel) (pa_cons (pv 4) (pa_nil))) (pe_int)) (pa_nil)))) (pa_cons (pe_ix (zix_list (K := K) rfl) (pv 13) (pe_un un_neg (pe_int)) (fun _ _ => rfl)) (pa_nil))))) (pss_nil))))) (pss_cons (ps_ret (pv 13)) (pss_nil)))))))))))), ?_⟩
    obtain rfl := d_bool d_near_
    replace z : Zs (g_record_ ++ (g_bag_ ++ amb)) _ _ := z.go [g_bag_, g_record_] amb [1, 0]
    refine p_open d_record_ z (fun v_record__0_ v_record__1_ g_record__0_ g_record__1_ t1 d_record__0_ d_record__1_ z => ?_)
    refine h_nmL hw d_record__0_ (fun record__0_ d_record__0_ hw => ?_)
    refine h_nmL hw d_record__1_ (fun record__1_ d_record__1_ hw => ?_)
    refine y_asgG ?_
    refine y_var rfl ?_
    refine p_gt2 (fun v u => [_, _, _, some v, some u, _, _, _, _, _, _, _, _, _, _, _]) (fun _ _ => rfl) t1 z ?_
    refine h_nmL hw d_record__0_ (fun counts_ d_counts_ hw => ?_)
    refine h_nmL hw d_record__1_ (fun ties_ d_ties_ hw => ?_)
    refine l_asg (fun v => [_, _, _, _, _, some v, _, _, _, _, _, _, _, _, _, _]) (fun _ => rfl) ?_
    refine y_lc ?_
    refine k_iR1 ?_
    refine y_cons ?_
    refine y_cb ?_
    refine y_cons ?_
    refine y_var rfl ?_
    refine y_nil ?_
    refine y_len (OL.lv d_counts_ mg0) z ?_
    refine y_nil ?_
    refine k_srcR1 (K := K) (Ho := Ho) hw.1 (fun J T => ?_)
    replace hw := (run_gd hw).2
    refine y_lcG z mgN T hw (fun r2 hand_ v_hand_ H Ho N N' e z d_hand_ hw => ?_) (fun t9 H Ho e hw p6 ws7 z d8 => ?_)
    · replace z : Zs ([r2] ++ (g_record__0_ ++ (g_record__1_ ++ (g_bag_ ++ amb)))) H Ho := z
      replace d_bag_ := OH.mo d_bag_ e
      replace d_counts_ := OL.mo d_counts_ e
      replace t1 := TupAt.mo t1 e
      replace d_ties_ := OL.mo d_ties_ e
      have es3 := (Same.refl _).trans e
      obtain rfl := d_int d_hand_
      refine y_gname (σ' := [some v_bag_, some v_record_, some (V.bl near_), some v_record__0_, some v_record__1_, none, some (V.int hand_), none, none, none, none, none, none, none, none, none]) rfl ?_
      refine ⟨rfl, ?_⟩
      refine y_test ?_
      refine y_op ?_
      refine y_op ?_
      refine y_var rfl ?_
      refine y_var rfl ?_
      refine y_ixL (OL.lv d_counts_ (mgS mg0)) z hw (fun t4 w d5 hw => ?_)
      first | obtain rfl := d_int d5 | cases d_int d5
      refine y_c ?_
      refine y_i0 ?_
      refine ⟨_, rfl, ?_⟩
      refine w_two (fun hb => ?_) (fun hb => ?_)
      · replace hw := run_itT (run_ret hw) hb
        refine y_var rfl ?_
        exact (run_ret hw) _ _ _ (Same.refl _) z (Dq.int _)
      · exact run_itF (run_ret hw) hb _ _ (Same.refl _) z
    replace d_bag_ := OH.mo d_bag_ e
    replace d_counts_ := OL.mo d_counts_ e
    replace t1 := TupAt.mo t1 e
    replace d_ties_ := OL.mo d_ties_ e
    have es10 := (Same.refl _).trans e
    replace z : Zs ([(p6, HO.lst ws7)] ++ (g_record__0_ ++ (g_record__1_ ++ (g_bag_ ++ amb)))) H Ho := z
    have o11 := OL.mk (p := p6) d8
    refine l_o hw z o11 (fun some_ v_some_ g_some_ z d_some_ hw => ?_)
    refine y_ifS ?_
    refine y_test ?_
    refine y_op ?_
    refine y_cb ?_
    refine y_cons ?_
    refine y_var rfl ?_
    refine y_nil ?_
    refine y_len (OL.lv d_some_ mg0) z ?_
    refine y_c ?_
    refine y_i0 ?_
    refine ⟨_, rfl, ?_⟩
    refine y_cases hw (fun hb hw => ?_) (fun hb hw => ?_)
    · refine y_ret ?_
      refine k_lst ?_
      refine y_nil ?_
      refine k_lstk (K := K) (xs := ([] : (List (P4 Int Int Int Int)))) z DqAll.nil (by show 0 ≤ sizeLine; decide) (fun H p12 ws13 z d14 => ?_)
      replace z : Zs ([(p12, HO.lst ws13)] ++ (g_some_ ++ (g_record__0_ ++ (g_record__1_ ++ (g_bag_ ++ amb))))) H Ho := z
      have o15 := OL.mk (p := p12) d14
      replace z : Zs (g_record__0_ ++ (g_record__1_ ++ ([(p12, HO.lst ws13)] ++ (g_some_ ++ (g_bag_ ++ amb))))) _ _ := z.go [[(p12, HO.lst ws13)], g_some_, g_record__0_, g_record__1_, g_bag_] amb [2, 3, 0, 1, 4]
      refine p_close t1 d_counts_ d_ties_ z (fun g16 d17 z => ?_)
      have tt18 := t1
      replace z : Zs ([(p12, HO.lst ws13)] ++ (g16 ++ (g_some_ ++ (g_bag_ ++ amb)))) _ _ := z.go [g16, [(p12, HO.lst ws13)], g_some_, g_bag_] amb [1, 0, 2, 3]
      refine l_fr o15 z (fun Ho e z d19 => ?_)
      replace d_bag_ := OH.mo d_bag_ e
      replace tt18 := TupAt.mo tt18 e
      replace d17 := OP.mo d17 e
      replace d_some_ := OL.mo d_some_ e
      have es20 := es10.trans e
      replace z : Zs (g_bag_ ++ (g16 ++ amb)) _ _ := z.go [g16, g_some_, g_bag_] amb [2, 0]
      exact (run_ret hw) _ _ _ _ _ es20 z d19 d_bag_ d17
    · refine y_nxS ?_
      refine l_asg (fun v => [_, _, _, _, _, _, _, some v, _, _, _, _, _, _, _, _]) (fun _ => rfl) ?_
      refine k_lst ?_
      refine y_nil ?_
      refine k_lstk (K := K) (xs := ([] : (List Int))) z DqAll.nil (by show 0 ≤ sizeLine; decide) (fun H p21 ws22 z d23 => ?_)
      replace z : Zs ([(p21, HO.lst ws22)] ++ (g_some_ ++ (g_record__0_ ++ (g_record__1_ ++ (g_bag_ ++ amb))))) H Ho := z
      have o24 := OL.mk (p := p21) d23
      refine l_o hw z o24 (fun hands_ v_hands_ g_hands_ z d_hands_ hw => ?_)
      refine y_for ?_
      refine k_iR1 ?_
      refine y_cons ?_
      refine y_op ?_
      refine y_c ?_
      refine y_call ?_
      refine y_cons ?_
      refine y_var rfl ?_
      refine y_cons ?_
      refine y_op ?_
      refine y_cb ?_
      refine y_cons ?_
      refine y_var rfl ?_
      refine y_nil ?_
      refine y_len (OL.lv d_some_ (mgS mg0)) z ?_
      refine y_c ?_
      refine y_i0 ?_
      refine y_nil ?_
      replace z : Zs (g_bag_ ++ (g_hands_ ++ (g_some_ ++ (g_record__0_ ++ (g_record__1_ ++ amb))))) _ _ := z.go [g_hands_, g_some_, g_record__0_, g_record__1_, g_bag_] amb [4, 0, 1, 2, 3]
      refine ⟨(g_hands_ ++ (g_some_ ++ (g_record__0_ ++ (g_record__1_ ++ amb)))), _, _, _, _, _, _, rfl, z, d_bag_, (Dq.int _), ?_⟩
      refine run_mono2 hw (fun t25 bag_ hw v g_bag_ H Ho e z d26 d_bag_ => ?_)
      replace d26 : Z.D K Ho v t25 := d26
      replace d_bag_ : OH K Ho v_bag_ bag_ g_bag_ := d_bag_
      replace d_counts_ := OL.mo d_counts_ e
      replace d_hands_ := OL.mo d_hands_ e
      replace t1 := TupAt.mo t1 e
      replace d_some_ := OL.mo d_some_ e
      replace d_ties_ := OL.mo d_ties_ e
      have es28 := es10.trans e
      first | obtain rfl := d_int d26 | cases d_int d26
      refine y_i0 ?_
      refine y_nil ?_
      refine k_srcR1 (K := K) (Ho := Ho) hw.1 (fun J T => ?_)
      replace hw := (run_gd hw).2
      refine y_forL T hw (fun (s : (H5 (List Int) Int Int Int Int) × (List Int) × (List Int)) (σ : L2.St) (H Ho : Hp) => ∃ (g_bag_ : Grp) (g_some_ : Grp) (g_hands_ : Grp) (y_step_ : Option V), σ = [some v_bag_, some v_record_, some (V.bl near_), some v_record__0_, some v_record__1_, some v_some_, none, some v_hands_, y_step_, none, none, none, none, none, none, none] ∧ Zs (g_bag_ ++ (g_hands_ ++ (g_some_ ++ (g_record__0_ ++ (g_record__1_ ++ amb))))) H Ho ∧ OH K Ho v_bag_ s.1 g_bag_ ∧ OL K Ho v_some_ s.2.1 g_some_ ∧ OL K Ho v_hands_ s.2.2 g_hands_) ⟨_, _, _, _, rfl, z, d_bag_, d_some_, d_hands_⟩ ?_ ?_ ?_ ?_
      · intro s σ H Ho hI
        obtain ⟨bag_, some_, hands_⟩ := s
        obtain ⟨g_bag_, g_some_, g_hands_, y_step_, rfl, z, d_bag_, d_some_, d_hands_⟩ := hI
        exact ⟨_, z, mgN⟩
      · intro s σ H Ho H2 Ho2 hI e t
        obtain ⟨bag_, some_, hands_⟩ := s
        obtain ⟨g_bag_, g_some_, g_hands_, y_step_, rfl, z, d_bag_, d_some_, d_hands_⟩ := hI
        exact ⟨_, _, _, _, rfl, t _ z, OH.mo d_bag_ e, OL.mo d_some_ e, OL.mo d_hands_ e⟩
      · intro step_ v_step_ s σ H Ho N e hI d_step_ hw
        obtain ⟨bag_, some_, hands_⟩ := s
        obtain ⟨g_bag_, g_some_, g_hands_, y_step_, rfl, z, d_bag_, d_some_, d_hands_⟩ := hI
        replace d_counts_ := OL.mo d_counts_ e
        replace t1 := TupAt.mo t1 e
        replace d_ties_ := OL.mo d_ties_ e
        have es29 := es28.trans e
        obtain rfl := d_int d_step_
        refine y_gname (σ' := [some v_bag_, some v_record_, some (V.bl near_), some v_record__0_, some v_record__1_, some v_some_, none, some v_hands_, some (V.int step_), none, none, none, none, none, none, none]) rfl ?_
        refine y_drop ?_
        refine y_bm ?_
        refine y_var rfl ?_
        refine g_tyL (OL.lv d_hands_ (mgS mg0)) z ?_
        refine y_cons ?_
        refine y_bm ?_
        refine y_var rfl ?_
        refine g_tyL (OL.lv d_some_ (mgS (mgS mg0))) z ?_
        refine y_cons ?_
        refine y_call ?_
        refine y_cons ?_
        refine y_var rfl ?_
        refine y_cons ?_
        refine y_cb ?_
        refine y_cons ?_
        refine y_var rfl ?_
        refine y_nil ?_
        refine y_len (OL.lv d_some_ (mgS (mgS mg0))) z ?_
        refine y_nil ?_
        refine ⟨(g_hands_ ++ (g_some_ ++ (g_record__0_ ++ (g_record__1_ ++ amb)))), _, _, _, _, _, _, rfl, z, d_bag_, (Dq.int _), ?_⟩
        refine run_mono2 hw (fun t30 bag_ hw v g_bag_ H Ho e z d31 d_bag_ => ?_)
        replace d31 : Z.D K Ho v t30 := d31
        replace d_bag_ : OH K Ho v_bag_ bag_ g_bag_ := d_bag_
        replace d_counts_ := OL.mo d_counts_ e
        replace d_hands_ := OL.mo d_hands_ e
        replace t1 := TupAt.mo t1 e
        replace d_some_ := OL.mo d_some_ e
        replace d_ties_ := OL.mo d_ties_ e
        have es33 := (Same.refl _).trans e
        first | obtain rfl := d_int d31 | cases d_int d31
        refine y_nil ?_
        replace z : Zs (g_some_ ++ (g_bag_ ++ (g_hands_ ++ (g_record__0_ ++ (g_record__1_ ++ amb))))) _ _ := z.go [g_bag_, g_hands_, g_some_, g_record__0_, g_record__1_] amb [2, 0, 1, 3, 4]
        refine g_popI z d_some_ hw (fun t34 some_ w g_some_ H z d_some_ d35 hw => ?_)
        first | obtain rfl := d_int d35 | cases d_int d35
        refine y_nil ?_
        replace z : Zs (g_hands_ ++ (g_some_ ++ (g_bag_ ++ (g_record__0_ ++ (g_record__1_ ++ amb))))) _ _ := z.go [g_some_, g_bag_, g_hands_, g_record__0_, g_record__1_] amb [2, 0, 1, 3, 4]
        refine g_app z d_hands_ (Dq.int _) hw (fun hands_ g_hands_ H z d_hands_ hw => ?_)
        replace z : Zs (g_bag_ ++ (g_hands_ ++ (g_some_ ++ (g_record__0_ ++ (g_record__1_ ++ amb))))) _ _ := z.go [g_hands_, g_some_, g_bag_, g_record__0_, g_record__1_] amb [2, 0, 1, 3, 4]
        exact (run_ret hw) _ _ _ es33 ⟨_, _, _, _, rfl, z, d_bag_, d_some_, d_hands_⟩
      intro s σ H Ho e hI hw
      obtain ⟨bag_, some_, hands_⟩ := s
      obtain ⟨g_bag_, g_some_, g_hands_, y_step_, rfl, z, d_bag_, d_some_, d_hands_⟩ := hI
      replace d_counts_ := OL.mo d_counts_ e
      replace t1 := TupAt.mo t1 e
      replace d_ties_ := OL.mo d_ties_ e
      have es36 := es28.trans e
      refine l_asg (fun v => [_, _, _, _, _, _, _, _, _, some v, _, _, _, _, _, _]) (fun _ => rfl) ?_
      refine y_lc ?_
      refine k_iList ?_
      refine y_var rfl ?_
      refine k_srcL (r0 := g_hands_) (OL.lv d_hands_ mgE) (mgS mg0) z (fun J T => ?_)
      refine y_lcS z T hw (fun (r37 : Addr × HO) (s : (H5 (List Int) Int Int Int Int)) (H2 Ho2 : Hp) => ∃ (g_bag_ : Grp), OH K Ho2 v_bag_ s g_bag_ ∧ Zs ([r37] ++ (g_bag_ ++ (g_hands_ ++ (g_some_ ++ (g_record__0_ ++ (g_record__1_ ++ amb)))))) H2 Ho2) (fun r H z => ⟨_, d_bag_, z⟩) ?_ ?_ ?_ ?_ ?_
      · rintro r s H Ho ⟨g_bag_, d_bag_, z⟩
        exact ⟨_, z, fun r m => (mgS (mgS mg0)) r m⟩
      · rintro r s H Ho H2 Ho2 ⟨g_bag_, d_bag_, z⟩ e t
        exact ⟨_, OH.mo d_bag_ e, t _ z⟩
      · rintro p o o' s H Ho hn ⟨g_bag_, d_bag_, z⟩
        exact ⟨_, d_bag_, Zs.put z hn⟩
      · intro r37 hand_ v_hand_ bag_ H Ho N N' e hI d_hand_ hw
        obtain ⟨g_bag_, d_bag_, z⟩ := hI
        replace d_counts_ := OL.mo d_counts_ e
        replace d_hands_ := OL.mo d_hands_ e
        replace t1 := TupAt.mo t1 e
        replace d_some_ := OL.mo d_some_ e
        replace d_ties_ := OL.mo d_ties_ e
        have es38 := es36.trans e
        obtain rfl := d_int d_hand_
        refine y_gname (σ' := [some v_bag_, some v_record_, some (V.bl near_), some v_record__0_, some v_record__1_, some v_some_, some (V.int hand_), some v_hands_, y_step_, none, none, none, none, none, none, none]) rfl ?_
        refine ⟨rfl, ?_⟩
        refine y_yes (w_t ?_)
        refine y_call ?_
        refine y_cons ?_
        refine y_var rfl ?_
        refine y_cons ?_
        refine y_op ?_
        refine y_var rfl ?_
        refine y_var rfl ?_
        refine y_ixL (OL.lv d_counts_ (mgS (mgS (mgS (mgS mg0))))) z hw (fun t39 w d40 hw => ?_)
        first | obtain rfl := d_int d40 | cases d_int d40
        refine y_nil ?_
        replace z : Zs (g_bag_ ++ ([r37] ++ (g_hands_ ++ (g_some_ ++ (g_record__0_ ++ (g_record__1_ ++ amb)))))) _ _ := z.go [[r37], g_bag_, g_hands_, g_some_, g_record__0_, g_record__1_] amb [1, 0, 2, 3, 4, 5]
        refine ⟨([r37] ++ (g_hands_ ++ (g_some_ ++ (g_record__0_ ++ (g_record__1_ ++ amb))))), _, _, _, _, _, _, rfl, z, d_bag_, (Dq.int _), ?_⟩
        refine run_mono2 hw (fun t41 bag_ hw v g_bag_ H Ho e z d42 d_bag_ => ?_)
        replace d42 : Z.D K Ho v t41 := d42
        replace d_bag_ : OH K Ho v_bag_ bag_ g_bag_ := d_bag_
        replace d_counts_ := OL.mo d_counts_ e
        replace d_hands_ := OL.mo d_hands_ e
        replace t1 := TupAt.mo t1 e
        replace d_some_ := OL.mo d_some_ e
        replace d_ties_ := OL.mo d_ties_ e
        have es44 := (Same.refl _).trans e
        first | obtain rfl := d_int d42 | cases d_int d42
        replace z : Zs ([r37] ++ (g_bag_ ++ (g_hands_ ++ (g_some_ ++ (g_record__0_ ++ (g_record__1_ ++ amb)))))) _ _ := z.go [g_bag_, [r37], g_hands_, g_some_, g_record__0_, g_record__1_] amb [1, 0, 2, 3, 4, 5]
        exact (run_ret hw) _ _ _ es44 ⟨_, d_bag_, z⟩ (Dq.int _)
      rintro t48 bag_ p45 ws46 H Ho e ⟨g_bag_, d_bag_, z⟩ d47 hw
      replace d_counts_ := OL.mo d_counts_ e
      replace d_hands_ := OL.mo d_hands_ e
      replace t1 := TupAt.mo t1 e
      replace d_some_ := OL.mo d_some_ e
      replace d_ties_ := OL.mo d_ties_ e
      have es49 := es36.trans e
      replace z : Zs ([(p45, HO.lst ws46)] ++ (g_bag_ ++ (g_hands_ ++ (g_some_ ++ (g_record__0_ ++ (g_record__1_ ++ amb)))))) H Ho := z
      have o50 := OL.mk (p := p45) d47
      refine l_fr o50 z (fun Ho e z d51 => ?_)
      replace d_bag_ := OH.mo d_bag_ e
      replace d_counts_ := OL.mo d_counts_ e
      replace d_hands_ := OL.mo d_hands_ e
      replace t1 := TupAt.mo t1 e
      replace d_some_ := OL.mo d_some_ e
      replace d_ties_ := OL.mo d_ties_ e
      have es52 := es49.trans e
      refine l_d (K := K) (Ho := Ho) hw d51 (fun leaves_ v_leaves_ d_leaves_ hw => ?_)
      refine l_asg (fun v => [_, _, _, _, _, _, _, _, _, _, some v, _, _, _, _, _]) (fun _ => rfl) ?_
      refine y_lc ?_
      refine k_iList ?_
      refine y_var rfl ?_
      refine k_srcL (r0 := ([] : Grp)) (LV.of d_leaves_) mgN z (fun J T => ?_)
      refine y_lcS z T hw (fun (r53 : Addr × HO) (s : (H5 (List Int) Int Int Int Int)) (H2 Ho2 : Hp) => ∃ (g_bag_ : Grp), OH K Ho2 v_bag_ s g_bag_ ∧ Zs ([r53] ++ (g_bag_ ++ (g_hands_ ++ (g_some_ ++ (g_record__0_ ++ (g_record__1_ ++ amb)))))) H2 Ho2) (fun r H z => ⟨_, d_bag_, z⟩) ?_ ?_ ?_ ?_ ?_
      · rintro r s H Ho ⟨g_bag_, d_bag_, z⟩
        exact ⟨_, z, fun r m => mgN r m⟩
      · rintro r s H Ho H2 Ho2 ⟨g_bag_, d_bag_, z⟩ e t
        exact ⟨_, OH.mo d_bag_ e, t _ z⟩
      · rintro p o o' s H Ho hn ⟨g_bag_, d_bag_, z⟩
        exact ⟨_, d_bag_, Zs.put z hn⟩
      · intro r53 k_ v_k_ bag_ H Ho N N' e hI d_k_ hw
        obtain ⟨g_bag_, d_bag_, z⟩ := hI
        replace d_counts_ := OL.mo d_counts_ e
        replace d_hands_ := OL.mo d_hands_ e
        replace d_leaves_ := D.mo d_leaves_ e
        replace t1 := TupAt.mo t1 e
        replace d_some_ := OL.mo d_some_ e
        replace d_ties_ := OL.mo d_ties_ e
        have es54 := es52.trans e
        obtain rfl := d_int d_k_
        refine y_gname (σ' := [some v_bag_, some v_record_, some (V.bl near_), some v_record__0_, some v_record__1_, some v_some_, none, some v_hands_, y_step_, some v_leaves_, none, some (V.int k_), none, none, none, none]) rfl ?_
        refine ⟨rfl, ?_⟩
        refine y_yes (w_t ?_)
        refine y_call ?_
        refine y_cons ?_
        refine y_var rfl ?_
        refine y_cons ?_
        refine y_op ?_
        refine y_var rfl ?_
        refine y_c ?_
        refine y_i0 ?_
        refine y_nil ?_
        replace z : Zs (g_bag_ ++ ([r53] ++ (g_hands_ ++ (g_some_ ++ (g_record__0_ ++ (g_record__1_ ++ amb)))))) _ _ := z.go [[r53], g_bag_, g_hands_, g_some_, g_record__0_, g_record__1_] amb [1, 0, 2, 3, 4, 5]
        refine ⟨([r53] ++ (g_hands_ ++ (g_some_ ++ (g_record__0_ ++ (g_record__1_ ++ amb))))), _, _, _, _, _, _, rfl, z, d_bag_, (Dq.int _), ?_⟩
        refine run_mono2 hw (fun t55 bag_ hw v g_bag_ H Ho e z d56 d_bag_ => ?_)
        replace d56 : Z.D K Ho v t55 := d56
        replace d_bag_ : OH K Ho v_bag_ bag_ g_bag_ := d_bag_
        replace d_counts_ := OL.mo d_counts_ e
        replace d_hands_ := OL.mo d_hands_ e
        replace d_leaves_ := D.mo d_leaves_ e
        replace t1 := TupAt.mo t1 e
        replace d_some_ := OL.mo d_some_ e
        replace d_ties_ := OL.mo d_ties_ e
        have es58 := (Same.refl _).trans e
        first | obtain rfl := d_int d56 | cases d_int d56
        replace z : Zs ([r53] ++ (g_bag_ ++ (g_hands_ ++ (g_some_ ++ (g_record__0_ ++ (g_record__1_ ++ amb)))))) _ _ := z.go [g_bag_, [r53], g_hands_, g_some_, g_record__0_, g_record__1_] amb [1, 0, 2, 3, 4, 5]
        exact (run_ret hw) _ _ _ es58 ⟨_, d_bag_, z⟩ (Dq.int _)
      rintro t62 bag_ p59 ws60 H Ho e ⟨g_bag_, d_bag_, z⟩ d61 hw
      replace d_counts_ := OL.mo d_counts_ e
      replace d_hands_ := OL.mo d_hands_ e
      replace d_leaves_ := D.mo d_leaves_ e
      replace t1 := TupAt.mo t1 e
      replace d_some_ := OL.mo d_some_ e
      replace d_ties_ := OL.mo d_ties_ e
      have es63 := es52.trans e
      replace z : Zs ([(p59, HO.lst ws60)] ++ (g_bag_ ++ (g_hands_ ++ (g_some_ ++ (g_record__0_ ++ (g_record__1_ ++ amb)))))) H Ho := z
      have o64 := OL.mk (p := p59) d61
      refine l_o hw z o64 (fun comes_ v_comes_ g_comes_ z d_comes_ hw => ?_)
      refine l_asg (fun v => [_, _, _, _, _, _, _, _, _, _, _, _, some v, _, _, _]) (fun _ => rfl) ?_
      refine y_call ?_
      refine y_cons ?_
      refine y_var rfl ?_
      refine y_cons ?_
      refine y_cb ?_
      refine y_cons ?_
      refine y_var rfl ?_
      refine y_nil ?_
      refine y_len (OL.lv d_hands_ (mgS (mgS mg0))) z ?_
      refine y_nil ?_
      replace z : Zs (g_bag_ ++ (g_comes_ ++ (g_hands_ ++ (g_some_ ++ (g_record__0_ ++ (g_record__1_ ++ amb)))))) _ _ := z.go [g_comes_, g_bag_, g_hands_, g_some_, g_record__0_, g_record__1_] amb [1, 0, 2, 3, 4, 5]
      refine ⟨(g_comes_ ++ (g_hands_ ++ (g_some_ ++ (g_record__0_ ++ (g_record__1_ ++ amb))))), _, _, _, _, _, _, rfl, z, d_bag_, (Dq.int _), ?_⟩
      refine run_mono2 hw (fun t65 bag_ hw v g_bag_ H Ho e z d66 d_bag_ => ?_)
      replace d66 : Z.D K Ho v t65 := d66
      replace d_bag_ : OH K Ho v_bag_ bag_ g_bag_ := d_bag_
      replace d_comes_ := OL.mo d_comes_ e
      replace d_counts_ := OL.mo d_counts_ e
      replace d_hands_ := OL.mo d_hands_ e
      replace d_leaves_ := D.mo d_leaves_ e
      replace t1 := TupAt.mo t1 e
      replace d_some_ := OL.mo d_some_ e
      replace d_ties_ := OL.mo d_ties_ e
      have es68 := es63.trans e
      first | obtain rfl := d_int d66 | cases d_int d66
      refine l_i hw (fun at_ hw => ?_)
      refine y_ifS ?_
      refine y_and ?_
      refine y_tB ?_
      refine y_var rfl ?_
      refine ⟨_, rfl, ?_⟩
      refine w_andJ hw (fun (s : Bool) (v : Bool) (H2 : Hp) => ∃ (Ho2 : Hp), Same Ho Ho2 ∧ Zs (g_bag_ ++ (g_comes_ ++ (g_hands_ ++ (g_some_ ++ (g_record__0_ ++ (g_record__1_ ++ amb)))))) H2 Ho2 ∧ v = s) (fun hb hw => ?_) (fun hb hw => ?_) ?_
      · refine y_test ?_
        refine y_op ?_
        refine y_op ?_
        refine y_op ?_
        refine y_var rfl ?_
        refine y_var rfl ?_
        refine y_ixL (LV.of d_leaves_) z hw (fun t69 w d70 hw => ?_)
        first | obtain rfl := d_int d70 | cases d_int d70
        refine y_c ?_
        refine y_i0 ?_
        refine y_op ?_
        refine y_var rfl ?_
        refine y_op ?_
        refine y_var rfl ?_
        refine y_var rfl ?_
        refine y_ixL (OL.lv d_hands_ (mgS (mgS mg0))) z hw (fun t71 w d72 hw => ?_)
        first | obtain rfl := d_int d72 | cases d_int d72
        refine y_ixL (OL.lv d_counts_ (mgS (mgS (mgS (mgS mg0))))) z hw (fun t73 w d74 hw => ?_)
        first | obtain rfl := d_int d74 | cases d_int d74
        refine y_i0 ?_
        refine ⟨_, rfl, ?_⟩
        exact (run_ret hw) _ _ ⟨_, (Same.refl _), z, rfl⟩
      · exact (run_ret hw) _ _ ⟨_, (Same.refl _), z, rfl⟩
      rintro t75 v H ⟨Ho, e, z, rfl⟩ hw
      replace d_bag_ := OH.mo d_bag_ e
      replace d_comes_ := OL.mo d_comes_ e
      replace d_counts_ := OL.mo d_counts_ e
      replace d_hands_ := OL.mo d_hands_ e
      replace d_leaves_ := D.mo d_leaves_ e
      replace t1 := TupAt.mo t1 e
      replace d_some_ := OL.mo d_some_ e
      replace d_ties_ := OL.mo d_ties_ e
      have es78 := es68.trans e
      refine w_ifJ hw (fun (s : (List Int)) (σ : L2.St) (H : Hp) => ∃ Ho2, Same Ho Ho2 ∧ (fun (s : (List Int)) (σ : L2.St) (H Ho : Hp) => ∃ (g_comes_ : Grp), σ = [some v_bag_, some v_record_, some (V.bl near_), some v_record__0_, some v_record__1_, some v_some_, none, some v_hands_, y_step_, some v_leaves_, some v_comes_, none, some (V.int at_), none, none, none] ∧ Zs (g_bag_ ++ (g_comes_ ++ (g_hands_ ++ (g_some_ ++ (g_record__0_ ++ (g_record__1_ ++ amb)))))) H Ho ∧ OL K Ho v_comes_ s g_comes_) s σ H Ho2) (fun hb hw => ?_) (fun hb hw => ?_) ?_
      · refine y_asgG ?_
        refine y_op ?_
        refine y_op ?_
        refine y_var rfl ?_
        refine y_var rfl ?_
        refine y_ixL (LV.of d_leaves_) z hw (fun t79 w d80 hw => ?_)
        first | obtain rfl := d_int d80 | cases d_int d80
        refine y_c ?_
        refine y_i0 ?_
        refine y_gsub ?_
        refine y_var rfl ?_
        refine y_var rfl ?_
        replace z : Zs (g_comes_ ++ (g_bag_ ++ (g_hands_ ++ (g_some_ ++ (g_record__0_ ++ (g_record__1_ ++ amb)))))) _ _ := z.go [g_bag_, g_comes_, g_hands_, g_some_, g_record__0_, g_record__1_] amb [1, 0, 2, 3, 4, 5]
        refine g_sti z d_comes_ (Dq.int _) hw (fun comes_ g_comes_ H z d_comes_ hw => ?_)
        replace z : Zs (g_bag_ ++ (g_comes_ ++ (g_hands_ ++ (g_some_ ++ (g_record__0_ ++ (g_record__1_ ++ amb)))))) _ _ := z.go [g_comes_, g_bag_, g_hands_, g_some_, g_record__0_, g_record__1_] amb [1, 0, 2, 3, 4, 5]
        exact (run_ret hw) _ _ ⟨_, (Same.refl _), ⟨_, rfl, z, d_comes_⟩⟩
      · refine y_nxS ?_
        exact (run_ret hw) _ _ ⟨_, (Same.refl _), ⟨_, rfl, z, d_comes_⟩⟩
      rintro comes_ σ H ⟨Ho, e, g_comes_, rfl, z, d_comes_⟩ hw
      replace d_bag_ := OH.mo d_bag_ e
      replace d_counts_ := OL.mo d_counts_ e
      replace d_hands_ := OL.mo d_hands_ e
      replace d_leaves_ := D.mo d_leaves_ e
      replace t1 := TupAt.mo t1 e
      replace d_some_ := OL.mo d_some_ e
      replace d_ties_ := OL.mo d_ties_ e
      have es81 := es78.trans e
      refine l_asg (fun v => [_, _, _, _, _, _, _, _, _, _, _, _, _, some v, _, _]) (fun _ => rfl) ?_
      refine k_lst ?_
      refine y_nil ?_
      refine k_lstk (K := K) (xs := ([] : (List (P4 Int Int Int Int)))) z DqAll.nil (by show 0 ≤ sizeLine; decide) (fun H p82 ws83 z d84 => ?_)
      replace z : Zs ([(p82, HO.lst ws83)] ++ (g_bag_ ++ (g_comes_ ++ (g_hands_ ++ (g_some_ ++ (g_record__0_ ++ (g_record__1_ ++ amb))))))) H Ho := z
      have o85 := OL.mk (p := p82) d84
      refine l_o hw z o85 (fun loop_ v_loop_ g_loop_ z d_loop_ hw => ?_)
      refine y_for ?_
      refine k_iR1 ?_
      refine y_cons ?_
      refine y_cb ?_
      refine y_cons ?_
      refine y_var rfl ?_
      refine y_nil ?_
      refine y_len (OL.lv d_hands_ (mgS (mgS (mgS mg0)))) z ?_
      refine y_nil ?_
      refine k_srcR1 (K := K) (Ho := Ho) hw.1 (fun J T => ?_)
      replace hw := (run_gd hw).2
      refine y_forL T hw (fun (s : (H5 (List Int) Int Int Int Int) × (List (P4 Int Int Int Int)) × (List (P4 Int Int Int Int))) (σ : L2.St) (H Ho : Hp) => ∃ (g_bag_ : Grp) (g_ties_ : Grp) (g_loop_ : Grp) (y_j_ : Option V) (y_to_ : Option V), σ = [some v_bag_, some v_record_, some (V.bl near_), some v_record__0_, some v_record__1_, some v_some_, none, some v_hands_, y_step_, some v_leaves_, some v_comes_, none, some (V.int at_), some v_loop_, y_j_, y_to_] ∧ Zs (g_loop_ ++ (g_bag_ ++ (g_comes_ ++ (g_hands_ ++ (g_some_ ++ (g_record__0_ ++ (g_ties_ ++ amb))))))) H Ho ∧ OH K Ho v_bag_ s.1 g_bag_ ∧ OL K Ho v_record__1_ s.2.1 g_ties_ ∧ OL K Ho v_loop_ s.2.2 g_loop_) ⟨_, _, _, _, _, rfl, z, d_bag_, d_ties_, d_loop_⟩ ?_ ?_ ?_ ?_
      · intro s σ H Ho hI
        obtain ⟨bag_, ties_, loop_⟩ := s
        obtain ⟨g_bag_, g_ties_, g_loop_, y_j_, y_to_, rfl, z, d_bag_, d_ties_, d_loop_⟩ := hI
        exact ⟨_, z, mgN⟩
      · intro s σ H Ho H2 Ho2 hI e t
        obtain ⟨bag_, ties_, loop_⟩ := s
        obtain ⟨g_bag_, g_ties_, g_loop_, y_j_, y_to_, rfl, z, d_bag_, d_ties_, d_loop_⟩ := hI
        exact ⟨_, _, _, _, _, rfl, t _ z, OH.mo d_bag_ e, OL.mo d_ties_ e, OL.mo d_loop_ e⟩
      · intro j_ v_j_ s σ H Ho N e hI d_j_ hw
        obtain ⟨bag_, ties_, loop_⟩ := s
        obtain ⟨g_bag_, g_ties_, g_loop_, y_j_, y_to_, rfl, z, d_bag_, d_ties_, d_loop_⟩ := hI
        replace d_comes_ := OL.mo d_comes_ e
        replace d_counts_ := OL.mo d_counts_ e
        replace d_hands_ := OL.mo d_hands_ e
        replace d_leaves_ := D.mo d_leaves_ e
        replace t1 := TupAt.mo t1 e
        replace d_some_ := OL.mo d_some_ e
        have es86 := es81.trans e
        obtain rfl := d_int d_j_
        refine y_gname (σ' := [some v_bag_, some v_record_, some (V.bl near_), some v_record__0_, some v_record__1_, some v_some_, none, some v_hands_, y_step_, some v_leaves_, some v_comes_, none, some (V.int at_), some v_loop_, some (V.int j_), y_to_]) rfl ?_
        refine l_asg (fun v => [_, _, _, _, _, _, _, _, _, _, _, _, _, _, _, some v]) (fun _ => rfl) ?_
        refine y_op ?_
        refine y_op ?_
        refine y_var rfl ?_
        refine y_c ?_
        refine y_i0 ?_
        refine y_cb ?_
        refine y_cons ?_
        refine y_var rfl ?_
        refine y_nil ?_
        refine y_len (OL.lv d_hands_ (mgS (mgS (mgS mg0)))) z ?_
        refine y_ig hw.1 ?_
        replace hw := (run_gd hw).2
        refine l_i hw (fun to_ hw => ?_)
        refine y_drop ?_
        refine y_bm ?_
        refine y_var rfl ?_
        refine g_tyL (OL.lv d_loop_ mg0) z ?_
        refine y_cons ?_
        refine k_tup ?_
        refine y_cons ?_
        refine y_op ?_
        refine y_var rfl ?_
        refine y_var rfl ?_
        refine y_ixL (OL.lv d_hands_ (mgS (mgS (mgS mg0)))) z hw (fun t87 w d88 hw => ?_)
        first | obtain rfl := d_int d88 | cases d_int d88
        refine y_cons ?_
        refine y_op ?_
        refine y_var rfl ?_
        refine y_var rfl ?_
        refine y_ixL (LV.of d_leaves_) z hw (fun t89 w d90 hw => ?_)
        first | obtain rfl := d_int d90 | cases d_int d90
        refine y_cons ?_
        refine y_op ?_
        refine y_var rfl ?_
        refine y_var rfl ?_
        refine y_ixL (OL.lv d_hands_ (mgS (mgS (mgS mg0)))) z hw (fun t91 w d92 hw => ?_)
        first | obtain rfl := d_int d92 | cases d_int d92
        refine y_cons ?_
        refine y_op ?_
        refine y_var rfl ?_
        refine y_var rfl ?_
        refine y_ixL (OL.lv d_comes_ (mgS (mgS mg0))) z hw (fun t93 w d94 hw => ?_)
        first | obtain rfl := d_int d94 | cases d_int d94
        refine y_nil ?_
        refine k_tupk (K := K) (x := (⟨t87, t89, t91, t93⟩ : (P4 Int Int Int Int))) z (by show 4 ≤ sizeLine; decide) _ rfl (DqAll.cons (Dq.int _) (DqAll.cons (Dq.int _) (DqAll.cons (Dq.int _) (DqAll.cons (Dq.int _) DqAll.nil)))) (fun p H Ho e z d95 => ?_)
        replace d_bag_ := OH.mo d_bag_ e
        replace d_comes_ := OL.mo d_comes_ e
        replace d_counts_ := OL.mo d_counts_ e
        replace d_hands_ := OL.mo d_hands_ e
        replace d_leaves_ := D.mo d_leaves_ e
        replace d_loop_ := OL.mo d_loop_ e
        replace t1 := TupAt.mo t1 e
        replace d_some_ := OL.mo d_some_ e
        replace d_ties_ := OL.mo d_ties_ e
        have es96 := (Same.refl _).trans e
        refine y_nil ?_
        refine g_app z d_loop_ d95 hw (fun loop_ g_loop_ H z d_loop_ hw => ?_)
        refine y_drop ?_
        refine y_bm ?_
        refine y_var rfl ?_
        refine g_tyL (OL.lv d_ties_ (mgS (mgS (mgS (mgS (mgS (mgS mg0))))))) z ?_
        refine y_cons ?_
        refine y_call ?_
        refine y_cons ?_
        refine y_var rfl ?_
        refine y_cons ?_
        refine y_op ?_
        refine y_cb ?_
        refine y_cons ?_
        refine y_var rfl ?_
        refine y_nil ?_
        refine y_len (OL.lv d_ties_ (mgS (mgS (mgS (mgS (mgS (mgS mg0))))))) z ?_
        refine y_c ?_
        refine y_i0 ?_
        refine y_nil ?_
        replace z : Zs (g_bag_ ++ (g_loop_ ++ (g_comes_ ++ (g_hands_ ++ (g_some_ ++ (g_record__0_ ++ (g_ties_ ++ amb))))))) _ _ := z.go [g_loop_, g_bag_, g_comes_, g_hands_, g_some_, g_record__0_, g_ties_] amb [1, 0, 2, 3, 4, 5, 6]
        refine ⟨(g_loop_ ++ (g_comes_ ++ (g_hands_ ++ (g_some_ ++ (g_record__0_ ++ (g_ties_ ++ amb)))))), _, _, _, _, _, _, rfl, z, d_bag_, (Dq.int _), ?_⟩
        refine run_mono2 hw (fun t97 bag_ hw v g_bag_ H Ho e z d98 d_bag_ => ?_)
        replace d98 : Z.D K Ho v t97 := d98
        replace d_bag_ : OH K Ho v_bag_ bag_ g_bag_ := d_bag_
        replace d_comes_ := OL.mo d_comes_ e
        replace d_counts_ := OL.mo d_counts_ e
        replace d_hands_ := OL.mo d_hands_ e
        replace d_leaves_ := D.mo d_leaves_ e
        replace d_loop_ := OL.mo d_loop_ e
        replace t1 := TupAt.mo t1 e
        replace d_some_ := OL.mo d_some_ e
        replace d_ties_ := OL.mo d_ties_ e
        have es100 := es96.trans e
        first | obtain rfl := d_int d98 | cases d_int d98
        refine y_cons ?_
        refine y_op ?_
        refine y_var rfl ?_
        refine y_un ?_
        refine y_c ?_
        refine y_neg ?_
        refine y_ixL (OL.lv d_loop_ (mgS mg0)) z hw (fun t101 w d102 hw => ?_)
        refine y_nil ?_
        replace z : Zs (g_ties_ ++ (g_bag_ ++ (g_loop_ ++ (g_comes_ ++ (g_hands_ ++ (g_some_ ++ (g_record__0_ ++ amb))))))) _ _ := z.go [g_bag_, g_loop_, g_comes_, g_hands_, g_some_, g_record__0_, g_ties_] amb [6, 0, 1, 2, 3, 4, 5]
        refine k_ins z d_ties_ d102 hw (fun ties_ g_ties_ H z d_ties_ hw => ?_)
        replace z : Zs (g_loop_ ++ (g_bag_ ++ (g_comes_ ++ (g_hands_ ++ (g_some_ ++ (g_record__0_ ++ (g_ties_ ++ amb))))))) _ _ := z.go [g_ties_, g_bag_, g_loop_, g_comes_, g_hands_, g_some_, g_record__0_] amb [2, 1, 3, 4, 5, 6, 0]
        exact (run_ret hw) _ _ _ es100 ⟨_, _, _, _, _, rfl, z, d_bag_, d_ties_, d_loop_⟩
      intro s σ H Ho e hI hw
      obtain ⟨bag_, ties_, loop_⟩ := s
      obtain ⟨g_bag_, g_ties_, g_loop_, y_j_, y_to_, rfl, z, d_bag_, d_ties_, d_loop_⟩ := hI
      replace d_comes_ := OL.mo d_comes_ e
      replace d_counts_ := OL.mo d_counts_ e
      replace d_hands_ := OL.mo d_hands_ e
      replace t1 := TupAt.mo t1 e
      replace d_some_ := OL.mo d_some_ e
      have es103 := es81.trans e
      refine y_ret ?_
      refine y_var rfl ?_
      replace z : Zs (g_record__0_ ++ (g_ties_ ++ (g_loop_ ++ (g_bag_ ++ (g_comes_ ++ (g_hands_ ++ (g_some_ ++ amb))))))) _ _ := z.go [g_loop_, g_bag_, g_comes_, g_hands_, g_some_, g_record__0_, g_ties_] amb [5, 6, 0, 1, 2, 3, 4]
      refine p_close t1 d_counts_ d_ties_ z (fun g104 d105 z => ?_)
      have tt106 := t1
      replace z : Zs (g_loop_ ++ (g104 ++ (g_bag_ ++ (g_comes_ ++ (g_hands_ ++ (g_some_ ++ amb)))))) _ _ := z.go [g104, g_loop_, g_bag_, g_comes_, g_hands_, g_some_] amb [1, 0, 2, 3, 4, 5]
      refine l_fr d_loop_ z (fun Ho e z d_loop_ => ?_)
      replace d_bag_ := OH.mo d_bag_ e
      replace d_comes_ := OL.mo d_comes_ e
      replace d_hands_ := OL.mo d_hands_ e
      replace tt106 := TupAt.mo tt106 e
      replace d105 := OP.mo d105 e
      replace d_some_ := OL.mo d_some_ e
      have es107 := es103.trans e
      replace z : Zs (g_bag_ ++ (g104 ++ amb)) _ _ := z.go [g104, g_bag_, g_comes_, g_hands_, g_some_] amb [1, 0]
      exact (run_ret hw) _ _ _ _ _ es107 z d_loop_ d_bag_ d105
def sp_law_leads (K : PySem.W.Frag) (cl : Nat → Addr) : Sp := fun vs H Q E => ∃ (amb : Grp) (Ho : Hp) (v0 : V) (x0 : (P4 Int Int Int Int)) (v1 : V) (x1 : (P4 Int Int Int Int)), vs = [v0, v1] ∧ Zs amb H Ho ∧ Z.D K Ho v0 x0 ∧ Z.D K Ho v1 x1 ∧ (m_law_leads x0 x1).run fun r => ∀ v H' Ho', Same Ho Ho' → Zs amb H' Ho' → Z.D K Ho' v r → Q v H'
abbrev s_law_leads : Stmt := topS 26
theorem sc_law_leads : FnScope ["tie", "later"] ["tie", "later"] (defScope s_law_leads) := ⟨rfl, rfl, rfl, by decide +kernel, rfl, by decide +kernel, by decide +kernel⟩
theorem ok_law_leads {f : Addr} {fd : FuncData} (F : Fun K "_law_leads" "_law_leads" s_law_leads f fd) :
    FnOk P w K mg base CX0 1 f fd ["tie", "later"] (sp_law_leads K cl) := by
  refine F.ok sc_law_leads (fun vs H Q E h => ?_) (fun cdv A outer s H vs Q E hr h => ?_)
  · obtain ⟨amb, Ho, v_tie_, tie_, v_later_, later_, rfl, _⟩ := h
    rfl
  · obtain ⟨amb, Ho, v_tie_, tie_, v_later_, later_, rfl, z, d_tie_, d_later_, hw⟩ := h
    refine ⟨_, pss_cons (ps_ret (pe_and (pe_cmpR (op_eq) (pe_ix (zix_tup (K := K) rfl) (pv 0) (pe_int) (fun _ _ => rfl)) (pe_ix (zix_tup (K := K) rfl) (pv 1) (pe_int) (fun _ _ => rfl)) (nomark _)) (pe_one (pe_cmpR (op_le) (pe_ix (zix_tup (K := K) rfl) (pv 0) (pe_int) (fun _ _ => rfl)) (pe_ix (zix_tup (K := K) rfl) (pv 1) (pe_int) (fun _ _ => rfl)) (nomark _))))) (pss_nil), ?_⟩
    refine y_ret ?_
    refine y_andV ?_
    refine y_op ?_
    refine y_op ?_
    refine y_var rfl ?_
    refine y_c ?_
    refine y_ixT (y := tie_.c) d_tie_ z ⟨_, rfl, rfl⟩ (fun w d1 => ?_)
    first | obtain rfl := d_int d1 | cases d_int d1
    refine y_op ?_
    refine y_var rfl ?_
    refine y_c ?_
    refine y_ixT (y := later_.a) d_later_ z ⟨_, rfl, rfl⟩ (fun w d2 => ?_)
    first | obtain rfl := d_int d2 | cases d_int d2
    refine y_eqi ?_
    refine ⟨_, rfl, ?_⟩
    refine w_andPV (a := (decide (tie_.c = later_.a))) (decide (tie_.d ≤ later_.b)) (fun hb hq => ?_) ?_
    · refine y_op ?_
      refine y_op ?_
      refine y_var rfl ?_
      refine y_c ?_
      refine y_ixT (y := tie_.d) d_tie_ z ⟨_, rfl, rfl⟩ (fun w d3 => ?_)
      first | obtain rfl := d_int d3 | cases d_int d3
      refine y_op ?_
      refine y_var rfl ?_
      refine y_c ?_
      refine y_ixT (y := later_.b) d_later_ z ⟨_, rfl, rfl⟩ (fun w d4 => ?_)
      first | obtain rfl := d_int d4 | cases d_int d4
      refine y_i0 ?_
      exact hq
    exact (run_ret hw) _ _ _ (Same.refl _) z (Dq.bl _)
def sp_law_least (K : PySem.W.Frag) (cl : Nat → Addr) : Sp := fun vs H Q E => ∃ (amb : Grp) (Ho : Hp) (v0 : V) (x0 : (List (P4 Int Int Int Int))) (v1 : V) (x1 : (P4 Int Int Int Int)), vs = [v0, v1] ∧ Zs amb H Ho ∧ LV K amb Ho v0 x0 ∧ Z.D K Ho v1 x1 ∧ (m_law_least x0 x1).run fun r => ∀ v H' Ho', Same Ho Ho' → Zs amb H' Ho' → Z.D K Ho' v r → Q v H'
abbrev s_law_least : Stmt := topS 27
theorem sc_law_least : FnScope ["ties", "first", "steps", "row", "at", "here", "later"] ["ties", "first"] (defScope s_law_least) := ⟨rfl, rfl, rfl, by decide +kernel, rfl, by decide +kernel, by decide +kernel⟩
theorem ok_law_least {f : Addr} {fd : FuncData} (F : Fun K "_law_least" "_law_least" s_law_least f fd) {f_law_leads : Addr} {fd_law_leads : FuncData} (c_law_leads : Cal P w K mg base CX0 "_law_leads" ["tie", "later"] 1 (sp_law_leads K cl) f_law_leads fd_law_leads) (m_len : mg "len" = none) :
    FnOk P w K mg base CX0 2 f fd ["ties", "first"] (sp_law_least K cl) := by
  refine F.ok sc_law_least (fun vs H Q E h => ?_) (fun cdv A outer s H vs Q E hr h => ?_)
  · obtain ⟨amb, Ho, v_ties_, ties_, v_first_, first_, rfl, _⟩ := h
    rfl
  · obtain ⟨amb, Ho, v_ties_, ties_, v_first_, first_, rfl, z, d_ties_, d_first_, hw⟩ := h
    refine ⟨_, pss_cons (ps_set (i := 2) sc_law_least.nd rfl (Or.inl rfl) (pe_disp1T (room1 hr) (pv 1) (pe_int))) (pss_cons (ps_set (i := 3) sc_law_least.nd rfl (Or.inl rfl) (pe_lst (pa_cons (pv 1) (pa_nil)))) (pss_cons (ps_set (i := 4) sc_law_least.nd rfl (Or.inl rfl) (pe_int)) (pss_cons (ps_while PassesOwn.never (pt_cmpR (op_lt) (pv 4) (pe_callB (zlen (K := K) rfl) (by rfl) m_len (by decide +kernel) (pa_cons (pv 3) (pa_nil))) (nomark _)) (pss_cons (ps_set (i := 5) sc_law_least.nd rfl (Or.inl rfl) (pe_ix (zix_list (K := K) rfl) (pv 3) (pv 4) (fun _ _ => rfl))) (pss_cons (ps_set (i := 4) sc_law_least.nd rfl (Or.inl rfl) (pe_op op_add (pv 4) (pe_int))) (pss_cons (ps_if (pt_val (pe_call c_law_leads.ok (hr.mono (by decide)) (by rfl) c_law_leads.g c_law_leads.kp c_law_leads.b .nil pass0 (pa_cons (pv 5) (pa_cons (pv 1) (pa_nil))))) (pss_cons (ps_ret (pe_dget (room1 hr) (pv 2) (pv 5) (fun _ _ => rfl))) (pss_nil)) (pss_nil)) (pss_cons (ps_for PassesOwn.never rfl (zpi_list (K := K) rfl (pv 0)) (pg_name (i := 6) sc_law_least.nd rfl (Or.inl rfl)) (pss_cons (ps_if (PW.pt (pw_and (pt_cmp (pc_dnotin (room1 hr) (pv 6) (pv 2))) (pw_and1 (pt_val (pe_call c_law_leads.ok (hr.mono (by decide)) (by rfl) c_law_leads.g c_law_leads.kp c_law_leads.b .nil pass0 (pa_cons (pv 5) (pa_cons (pv 6) (pa_nil)))))))) (pss_cons (ps_dput (room1 hr) (pv 2) (pv 6) (pe_op op_add (pe_dget (room1 hr) (pv 2) (pv 5) (fun _ _ => rfl)) (pe_int)) (by rfl)) (pss_cons (ps_expr (pe_bm PySem.F.plainAttrs_list PySem.F.slot_list_append PySem.F.type_list_append mt_append (pv 3) (pa_cons (pv 6) (pa_nil)))) (pss_nil))) (pss_nil)) (pss_nil))) (pss_nil)))))) (pss_cons (ps_ret (pe_int)) (pss_nil))))), ?_⟩
    refine l_asg (fun v => [_, _, some v, _, _, _, _]) (fun _ => rfl) ?_
    refine k_disp1T z (fun p1 H z => ?_)
    replace z : Zs ([(p1, HO.dT [])] ++ amb) _ _ := z
    refine y_var rfl ?_
    refine y_c ?_
    refine g_disp1T (a := (1 : Int)) z d_first_ (Dq.int _) (fun g2 H z o3 => ?_)
    refine d_o hw z o3 (fun steps_ v_steps_ g_steps_ z d_steps_ hw => ?_)
    refine l_asg (fun v => [_, _, _, some v, _, _, _]) (fun _ => rfl) ?_
    refine k_lst ?_
    refine y_cons ?_
    refine y_var rfl ?_
    refine y_nil ?_
    refine k_lstk (K := K) (xs := ([first_] : (List (P4 Int Int Int Int)))) z (DqAll.cons d_first_ DqAll.nil) (by show 1 ≤ sizeLine; decide) (fun H p4 ws5 z d6 => ?_)
    replace z : Zs ([(p4, HO.lst ws5)] ++ (g_steps_ ++ amb)) H Ho := z
    have o7 := OL.mk (p := p4) d6
    refine l_o hw z o7 (fun row_ v_row_ g_row_ z d_row_ hw => ?_)
    refine l_asg (fun v => [_, _, _, _, some v, _, _]) (fun _ => rfl) ?_
    refine y_c ?_
    refine l_i hw (fun at_ hw => ?_)
    refine y_while hw (fun (s : (Dc (P4 Int Int Int Int) Int) × (List (P4 Int Int Int Int)) × Int) (σ : L2.St) (H Ho : Hp) => ∃ (g_steps_ : Grp) (g_row_ : Grp) (y_here_ : Option V) (y_later_ : Option V), σ = [some v_ties_, some v_first_, some v_steps_, some v_row_, some (V.int s.2.2), y_here_, y_later_] ∧ Zs (g_row_ ++ (g_steps_ ++ amb)) H Ho ∧ OD K Ho v_steps_ s.1 g_steps_ ∧ OL K Ho v_row_ s.2.1 g_row_) ⟨_, _, _, _, rfl, z, d_steps_, d_row_⟩ ?_ ?_
    · intro s σ H Ho N B E hE e hI hw
      obtain ⟨steps_, row_, at_⟩ := s
      obtain ⟨g_steps_, g_row_, y_here_, y_later_, rfl, z, d_steps_, d_row_⟩ := hI
      replace d_first_ := D.mo d_first_ e
      replace d_ties_ := LV.mo d_ties_ e
      have es8 := (Same.refl _).trans e
      refine y_test ?_
      refine y_op ?_
      refine y_var rfl ?_
      refine y_cb ?_
      refine y_cons ?_
      refine y_var rfl ?_
      refine y_nil ?_
      refine y_len (OL.lv d_row_ mg0) z ?_
      refine y_i0 ?_
      refine ⟨_, rfl, ?_⟩
      refine y_cases hw (fun hb hw => ?_) (fun hb hw => ?_)
      · refine ⟨_, hE, ?_⟩
        refine l_asg (fun v => [_, _, _, _, _, some v, _]) (fun _ => rfl) ?_
        refine y_op ?_
        refine y_var rfl ?_
        refine y_var rfl ?_
        refine y_ixL (OL.lv d_row_ mg0) z hw (fun t9 w d10 hw => ?_)
        refine l_d (K := K) (Ho := Ho) hw d10 (fun here_ v_here_ d_here_ hw => ?_)
        refine l_asg (fun v => [_, _, _, _, some v, _, _]) (fun _ => rfl) ?_
        refine y_op ?_
        refine y_var rfl ?_
        refine y_c ?_
        refine y_i0 ?_
        refine l_i hw (fun at_ hw => ?_)
        refine y_ifS ?_
        refine y_tB ?_
        refine y_call ?_
        refine y_cons ?_
        refine y_var rfl ?_
        refine y_cons ?_
        refine y_var rfl ?_
        refine y_nil ?_
        refine ⟨(g_row_ ++ (g_steps_ ++ amb)), _, _, _, _, _, rfl, z, d_here_, d_first_, ?_⟩
        refine run_mono3 hw (fun t11 hw v H Ho e z d12 => ?_)
        replace d_first_ := D.mo d_first_ e
        replace d_here_ := D.mo d_here_ e
        replace d_row_ := OL.mo d_row_ e
        replace d_steps_ := OD.mo d_steps_ e
        replace d_ties_ := LV.mo d_ties_ e
        have es14 := (Same.refl _).trans e
        first | obtain rfl := d_bool d12 | cases d_bool d12
        refine ⟨_, rfl, ?_⟩
        refine y_cases hw (fun hb hw => ?_) (fun hb hw => ?_)
        · refine y_ret ?_
          refine y_dget ?_
          refine y_var rfl ?_
          refine y_var rfl ?_
          refine g_dget ⟨_, d_steps_, (mgS mg0)⟩ z d_here_ hw (fun t15 w d16 hw => ?_)
          first | obtain rfl := d_int d16 | cases d_int d16
          replace z : Zs amb _ _ := z.go [g_row_, g_steps_] amb []
          exact (ctl_rt (run_ret hw)) _ _ _ (es8.trans es14) z (Dq.int _)
        · refine y_nxS ?_
          refine y_for ?_
          refine k_iList ?_
          refine y_var rfl ?_
          refine k_srcL (r0 := amb) (LV.sub d_ties_ mgE) (mgS (mgS mgE)) z (fun J T => ?_)
          refine y_forL T hw (fun (s : (Dc (P4 Int Int Int Int) Int) × (List (P4 Int Int Int Int))) (σ : L2.St) (H Ho : Hp) => ∃ (g_steps_ : Grp) (g_row_ : Grp) (y_later_ : Option V), σ = [some v_ties_, some v_first_, some v_steps_, some v_row_, some (V.int at_), some v_here_, y_later_] ∧ Zs (g_row_ ++ (g_steps_ ++ amb)) H Ho ∧ OD K Ho v_steps_ s.1 g_steps_ ∧ OL K Ho v_row_ s.2 g_row_) ⟨_, _, _, rfl, z, d_steps_, d_row_⟩ ?_ ?_ ?_ ?_
          · intro s σ H Ho hI
            obtain ⟨steps_, row_⟩ := s
            obtain ⟨g_steps_, g_row_, y_later_, rfl, z, d_steps_, d_row_⟩ := hI
            exact ⟨_, z, (mgS (mgS mgE))⟩
          · intro s σ H Ho H2 Ho2 hI e t
            obtain ⟨steps_, row_⟩ := s
            obtain ⟨g_steps_, g_row_, y_later_, rfl, z, d_steps_, d_row_⟩ := hI
            exact ⟨_, _, _, rfl, t _ z, OD.mo d_steps_ e, OL.mo d_row_ e⟩
          · intro later_ v_later_ s σ H Ho N e hI d_later_ hw
            obtain ⟨steps_, row_⟩ := s
            obtain ⟨g_steps_, g_row_, y_later_, rfl, z, d_steps_, d_row_⟩ := hI
            replace d_first_ := D.mo d_first_ e
            replace d_here_ := D.mo d_here_ e
            replace d_ties_ := LV.mo d_ties_ e
            have es17 := es14.trans e
            refine y_gname (σ' := [some v_ties_, some v_first_, some v_steps_, some v_row_, some (V.int at_), some v_here_, some v_later_]) rfl ?_
            refine y_ifS ?_
            refine y_and ?_
            refine y_tB ?_
            refine y_dnotin ?_
            refine y_var rfl ?_
            refine y_var rfl ?_
            refine g_dnotin ⟨_, d_steps_, (mgS mg0)⟩ z d_later_ ?_
            refine ⟨_, rfl, ?_⟩
            refine w_andJ hw (fun (s : Bool) (v : Bool) (H2 : Hp) => ∃ (Ho2 : Hp), Same Ho Ho2 ∧ Zs (g_row_ ++ (g_steps_ ++ amb)) H2 Ho2 ∧ v = s) (fun hb hw => ?_) (fun hb hw => ?_) ?_
            · refine y_tB ?_
              refine y_call ?_
              refine y_cons ?_
              refine y_var rfl ?_
              refine y_cons ?_
              refine y_var rfl ?_
              refine y_nil ?_
              refine ⟨(g_row_ ++ (g_steps_ ++ amb)), _, _, _, _, _, rfl, z, d_here_, d_later_, ?_⟩
              refine run_mono3 hw (fun t18 hw v H Ho e z d19 => ?_)
              replace d_first_ := D.mo d_first_ e
              replace d_here_ := D.mo d_here_ e
              replace d_later_ := D.mo d_later_ e
              replace d_row_ := OL.mo d_row_ e
              replace d_steps_ := OD.mo d_steps_ e
              replace d_ties_ := LV.mo d_ties_ e
              have es21 := (Same.refl _).trans e
              first | obtain rfl := d_bool d19 | cases d_bool d19
              refine ⟨_, rfl, ?_⟩
              exact (run_ret hw) _ _ ⟨_, es21, z, rfl⟩
            · exact (run_ret hw) _ _ ⟨_, (Same.refl _), z, rfl⟩
            rintro t22 v H ⟨Ho, e, z, rfl⟩ hw
            replace d_first_ := D.mo d_first_ e
            replace d_here_ := D.mo d_here_ e
            replace d_later_ := D.mo d_later_ e
            replace d_row_ := OL.mo d_row_ e
            replace d_steps_ := OD.mo d_steps_ e
            replace d_ties_ := LV.mo d_ties_ e
            have es25 := (Same.refl _).trans e
            refine w_ifJ hw (fun (s : (Dc (P4 Int Int Int Int) Int) × (List (P4 Int Int Int Int))) (σ : L2.St) (H : Hp) => ∃ Ho2, Same Ho Ho2 ∧ (fun (s : (Dc (P4 Int Int Int Int) Int) × (List (P4 Int Int Int Int))) (σ : L2.St) (H Ho : Hp) => ∃ (g_steps_ : Grp) (g_row_ : Grp), σ = [some v_ties_, some v_first_, some v_steps_, some v_row_, some (V.int at_), some v_here_, some v_later_] ∧ Zs (g_row_ ++ (g_steps_ ++ amb)) H Ho ∧ OD K Ho v_steps_ s.1 g_steps_ ∧ OL K Ho v_row_ s.2 g_row_) s σ H Ho2) (fun hb hw => ?_) (fun hb hw => ?_) ?_
            · refine y_dput ?_
              refine y_op ?_
              refine y_dget ?_
              refine y_var rfl ?_
              refine y_var rfl ?_
              refine g_dget ⟨_, d_steps_, (mgS mg0)⟩ z d_here_ hw (fun t26 w d27 hw => ?_)
              first | obtain rfl := d_int d27 | cases d_int d27
              refine y_c ?_
              refine y_i0 ?_
              refine y_var rfl ?_
              refine y_var rfl ?_
              replace z : Zs (g_steps_ ++ (g_row_ ++ amb)) _ _ := z.go [g_row_, g_steps_] amb [1, 0]
              refine g_dput z d_steps_ d_later_ (Dq.int _) hw (fun steps_ g_steps_ H z d_steps_ hw => ?_)
              refine y_drop ?_
              refine y_bm ?_
              refine y_var rfl ?_
              refine g_tyL (OL.lv d_row_ (mgS mg0)) z ?_
              refine y_cons ?_
              refine y_var rfl ?_
              refine y_nil ?_
              replace z : Zs (g_row_ ++ (g_steps_ ++ amb)) _ _ := z.go [g_steps_, g_row_] amb [1, 0]
              refine g_app z d_row_ d_later_ hw (fun row_ g_row_ H z d_row_ hw => ?_)
              exact (run_ret hw) _ _ ⟨_, (Same.refl _), ⟨_, _, rfl, z, d_steps_, d_row_⟩⟩
            · refine y_nxS ?_
              exact (run_ret hw) _ _ ⟨_, (Same.refl _), ⟨_, _, rfl, z, d_steps_, d_row_⟩⟩
            rintro ⟨steps_, row_⟩ σ H ⟨Ho, e, g_steps_, g_row_, rfl, z, d_steps_, d_row_⟩ hw
            replace d_first_ := D.mo d_first_ e
            replace d_here_ := D.mo d_here_ e
            replace d_later_ := D.mo d_later_ e
            replace d_ties_ := LV.mo d_ties_ e
            have es28 := es25.trans e
            exact (run_ret hw) _ _ _ es28 ⟨_, _, _, rfl, z, d_steps_, d_row_⟩
          intro s σ H Ho e hI hw
          obtain ⟨steps_, row_⟩ := s
          obtain ⟨g_steps_, g_row_, y_later_, rfl, z, d_steps_, d_row_⟩ := hI
          replace d_first_ := D.mo d_first_ e
          replace d_here_ := D.mo d_here_ e
          replace d_ties_ := LV.mo d_ties_ e
          have es29 := es14.trans e
          exact ctl_nx (run_ret hw) _ _ _ es29 ⟨_, _, _, _, rfl, z, d_steps_, d_row_⟩
      · exact ctl_bk (run_ret hw) _ _ _ (Same.refl _) ⟨_, _, _, _, rfl, z, d_steps_, d_row_⟩
    intro s σ H Ho e hI hw
    obtain ⟨steps_, row_, at_⟩ := s
    obtain ⟨g_steps_, g_row_, y_here_, y_later_, rfl, z, d_steps_, d_row_⟩ := hI
    have es30 := (Same.refl _).trans e
    refine y_ret ?_
    refine y_c ?_
    replace z : Zs amb _ _ := z.go [g_row_, g_steps_] amb []
    exact (run_ret hw) _ _ _ es30 z (Dq.int _)
def sp_law_fewest (K : PySem.W.Frag) (cl : Nat → Addr) : Sp := fun vs H Q E => ∃ (amb : Grp) (Ho : Hp) (v0 : V) (x0 : (List (P4 Int Int Int Int))), vs = [v0] ∧ Zs amb H Ho ∧ LV K amb Ho v0 x0 ∧ (m_law_fewest x0).run fun r => ∀ v H' Ho', Same Ho Ho' → Zs amb H' Ho' → Z.D K Ho' v r → Q v H'
abbrev s_law_fewest : Stmt := topS 28
theorem sc_law_fewest : FnScope ["ties", "some", "found", "first", "many"] ["ties"] (defScope s_law_fewest) := ⟨rfl, rfl, rfl, by decide +kernel, rfl, by decide +kernel, by decide +kernel⟩
theorem ok_law_fewest {f : Addr} {fd : FuncData} (F : Fun K "_law_fewest" "_law_fewest" s_law_fewest f fd) {f_law_least : Addr} {fd_law_least : FuncData} (c_law_least : Cal P w K mg base CX0 "_law_least" ["ties", "first"] 2 (sp_law_least K cl) f_law_least fd_law_least) (m_sorted : mg "sorted" = none) (m_set : mg "set" = none) (m_min : mg "min" = none) :
    FnOk P w K mg base CX0 3 f fd ["ties"] (sp_law_fewest K cl) := by
  refine F.ok sc_law_fewest (fun vs H Q E h => ?_) (fun cdv A outer s H vs Q E hr h => ?_)
  · obtain ⟨amb, Ho, v_ties_, ties_, rfl, _⟩ := h
    rfl
  · obtain ⟨amb, Ho, v_ties_, ties_, rfl, z, d_ties_, hw⟩ := h
    refine ⟨_, pss_cons (ps_set (i := 1) sc_law_fewest.nd rfl (Or.inr rfl) (Zb.pe_srtSetB rfl (room65 hr) (by rfl) m_sorted (by rfl) m_set (pv 0))) (pss_cons (ps_setLc (i := 2) (own := [("first", 3)]) rfl sc_law_fewest.nd rfl rfl (sw_true rfl rfl rfl (by decide +kernel)) (zpi_list (K := K) rfl (pv 1)) (blkOk_by (N := ["ties", "some", "found", "first", "many"]) (sc := defScope s_law_fewest) (by decide +kernel)) (fun _ _ _ _ _ => pg_name (i := 3) sc_law_fewest.nd rfl (Or.inl rfl)) (fun _ _ _ _ _ => pts_nil) (fun _ _ _ _ _ => pe_call c_law_least.ok (hr.mono (by decide)) (by rfl) c_law_least.g c_law_least.kp c_law_least.b .nil pass0 (pa_cons (pv 1) (pa_cons (pv 3) (pa_nil))))) (pss_cons (ps_ret (pe_callBK (zmnD (K := K) rfl rfl hr.units) (by rfl) m_min (by decide +kernel) (pa_cons (pe_lc (own := [("many", 4)]) rfl sc_law_fewest.nd (zpi_list (K := K) rfl (pv 2)) (blkOk_by (N := ["ties", "some", "found", "first", "many"]) (sc := defScope s_law_fewest) (by decide +kernel)) (fun _ _ _ _ _ => pg_name (i := 4) sc_law_fewest.nd rfl (Or.inl rfl)) (fun _ _ _ _ _ => pts_one (pt_cmpR (op_gt) (pv 4) (pe_int) (nomark _))) (fun _ _ _ _ _ => pv 4)) (pa_nil)) (pk_cons (pe_int) pk_nil))) (pss_nil))), ?_⟩
    refine l_asg (fun v => [_, some v, _, _, _]) (fun _ => rfl) ?_
    refine k_srtSet ?_
    refine y_var rfl ?_
    refine y_srtSet (α := (P4 Int Int Int Int)) (LV.sub d_ties_ mgE) z hw.1 (fun H p1 ws2 z d3 => ?_)
    replace hw := (run_gd hw).2
    replace z : Zs ([(p1, HO.lst ws2)] ++ amb) H Ho := z
    have o4 := OL.mk (p := p1) d3
    refine l_fr o4 z (fun Ho e z d5 => ?_)
    have es6 := (Same.refl _).trans e
    refine l_d (K := K) (Ho := Ho) hw d5 (fun some_ v_some_ d_some_ hw => ?_)
    refine l_asg (fun v => [_, _, some v, _, _]) (fun _ => rfl) ?_
    refine y_lc ?_
    refine k_iList ?_
    refine y_var rfl ?_
    refine k_srcL (r0 := ([] : Grp)) (LV.of d_some_) mgN z (fun J T => ?_)
    refine y_lcG z mgN T hw (fun r7 first_ v_first_ H Ho N N' e z d_first_ hw => ?_) (fun t16 H Ho e hw p13 ws14 z d15 => ?_)
    · replace z : Zs ([r7] ++ amb) H Ho := z
      replace d_some_ := D.mo d_some_ e
      have es8 := es6.trans e
      refine y_gname (σ' := [some v_ties_, some v_some_, none, some v_first_, none]) rfl ?_
      refine ⟨rfl, ?_⟩
      refine y_yes (w_t ?_)
      replace hw := run_itT (run_bret hw) rfl
      refine y_call ?_
      refine y_cons ?_
      refine y_var rfl ?_
      refine y_cons ?_
      refine y_var rfl ?_
      refine y_nil ?_
      refine ⟨([r7] ++ amb), _, _, _, _, _, rfl, z, (LV.of d_some_), d_first_, ?_⟩
      refine run_mono3 hw (fun t9 hw v H Ho e z d10 => ?_)
      replace d_first_ := D.mo d_first_ e
      replace d_some_ := D.mo d_some_ e
      have es12 := (Same.refl _).trans e
      first | obtain rfl := d_int d10 | cases d_int d10
      exact (run_ret hw) _ _ _ es12 z (Dq.int _)
    replace d_some_ := D.mo d_some_ e
    have es17 := es6.trans e
    replace z : Zs ([(p13, HO.lst ws14)] ++ amb) H Ho := z
    have o18 := OL.mk (p := p13) d15
    refine l_fr o18 z (fun Ho e z d19 => ?_)
    have es20 := es17.trans e
    refine l_d (K := K) (Ho := Ho) hw d19 (fun found_ v_found_ d_found_ hw => ?_)
    refine y_ret ?_
    refine y_ckw ?_
    refine y_cons ?_
    refine y_lc ?_
    refine k_iList ?_
    refine y_var rfl ?_
    refine k_srcL (r0 := ([] : Grp)) (LV.of d_found_) mgN z (fun J T => ?_)
    refine y_lcG z mgN T hw (fun r21 many_ v_many_ H Ho N N' e z d_many_ hw => ?_) (fun t26 H Ho e hw p23 ws24 z d25 => ?_)
    · replace z : Zs ([r21] ++ amb) H Ho := z
      replace d_found_ := D.mo d_found_ e
      have es22 := es20.trans e
      obtain rfl := d_int d_many_
      refine y_gname (σ' := [some v_ties_, some v_some_, some v_found_, none, some (V.int many_)]) rfl ?_
      refine ⟨rfl, ?_⟩
      refine y_test ?_
      refine y_op ?_
      refine y_var rfl ?_
      refine y_c ?_
      refine y_i0 ?_
      refine ⟨_, rfl, ?_⟩
      refine w_two (fun hb => ?_) (fun hb => ?_)
      · replace hw := run_itT (run_ret hw) hb
        refine y_var rfl ?_
        exact (run_ret hw) _ _ _ (Same.refl _) z (Dq.int _)
      · exact run_itF (run_ret hw) hb _ _ (Same.refl _) z
    replace d_found_ := D.mo d_found_ e
    have es27 := es20.trans e
    replace z : Zs ([(p23, HO.lst ws24)] ++ amb) H Ho := z
    have o28 := OL.mk (p := p23) d25
    refine y_nil ?_
    refine y_cons ?_
    refine y_c ?_
    refine y_nil ?_
    refine y_mnD (OL.lv o28 mg0) z ?_
    replace z : Zs amb _ _ := z.go [[(p23, HO.lst ws24)]] amb []
    exact (run_ret hw) _ _ _ es27 z (Dq.int _)
def sp_law_goes_round (K : PySem.W.Frag) (cl : Nat → Addr) : Sp := fun vs H Q E => ∃ (amb : Grp) (Ho : Hp) (v0 : V) (x0 : ((List Int) × (List (P4 Int Int Int Int)))) (v1 : V) (x1 : (List (P4 Int Int Int Int))), vs = [v0, v1] ∧ Zs amb H Ho ∧ LP K amb Ho v0 x0 ∧ Z.D K Ho v1 x1 ∧ (m_law_goes_round x0 x1).run fun r => ∀ v H' Ho', Same Ho Ho' → Zs amb H' Ho' → Z.D K Ho' v r → Q v H'
abbrev s_law_goes_round : Stmt := topS 29
theorem sc_law_goes_round : FnScope ["record", "found", "at", "part"] ["record", "found"] (defScope s_law_goes_round) := ⟨rfl, rfl, rfl, by decide +kernel, rfl, by decide +kernel, by decide +kernel⟩
theorem ok_law_goes_round {f : Addr} {fd : FuncData} (F : Fun K "_law_goes_round" "_law_goes_round" s_law_goes_round f fd) {f_law_leads : Addr} {fd_law_leads : FuncData} (c_law_leads : Cal P w K mg base CX0 "_law_leads" ["tie", "later"] 1 (sp_law_leads K cl) f_law_leads fd_law_leads) (m_isinstance : mg "isinstance" = none) (m_list : mg "list" = none) (m_len : mg "len" = none) (m_range : mg "range" = none) (m_tuple : mg "tuple" = none) (m_bool : mg "bool" = none) :
    FnOk P w K mg base CX0 2 f fd ["record", "found"] (sp_law_goes_round K cl) := by
  refine F.ok sc_law_goes_round (fun vs H Q E h => ?_) (fun cdv A outer s H vs Q E hr h => ?_)
  · obtain ⟨amb, Ho, v_record_, record_, v_found_, found_, rfl, _⟩ := h
    rfl
  · obtain ⟨amb, Ho, v_record_, record_, v_found_, found_, rfl, z, d_record_, d_found_, hw⟩ := h
    refine ⟨_, pss_cons (ps_if (PW.pt (pw_or (pt_not (pt_val (pe_callB (zisi (K := K) rfl) (by rfl) m_isinstance (by decide +kernel) (pa_cons (pv 1) (pa_cons (pe_bltn (v := .ty "list") (by rfl) m_list (by decide +kernel) rfl) pa_nil))))) (pw_or1 (pt_cmpR (zop_eqD (K := K) rfl hr.units) (pv 1) (pe_lst (pa_nil)) (nomark _))))) (pss_cons (ps_ret (pe_bl)) (pss_nil)) (pss_nil)) (pss_cons (ps_for PassesOwn.never rfl (pi_range1 (by rfl) m_range (pa_cons (pe_callB (zlen (K := K) rfl) (by rfl) m_len (by decide +kernel) (pa_cons (pv 1) (pa_nil))) (pa_nil))) (pg_name (i := 2) sc_law_goes_round.nd rfl (Or.inl rfl)) (pss_cons (ps_if (PW.pt (pw_or (pt_not (pt_val (pe_callB (zisi (K := K) rfl) (by rfl) m_isinstance (by decide +kernel) (pa_cons (pe_ix (zix_list (K := K) rfl) (pv 1) (pv 2) (fun _ _ => rfl)) (pa_cons (pe_bltn (v := .ty "tuple") (by rfl) m_tuple (by decide +kernel) rfl) pa_nil))))) (pw_or1 (pt_cmpR (zop_notInD (K := K) rfl (room65 hr)) (pe_ix (zix_list (K := K) rfl) (pv 1) (pv 2) (fun _ _ => rfl)) (pe_ix (zix_tup (K := K) rfl) (pv 0) (pe_int) (fun _ _ => rfl)) rfl)))) (pss_cons (ps_ret (pe_bl)) (pss_nil)) (pss_nil)) (pss_cons (ps_if (pt_cmpR (zop_neD (K := K) rfl hr.units) (pe_lc (own := [("part", 3)]) rfl sc_law_goes_round.nd (zpi_tup (K := K) rfl (pe_ix (zix_list (K := K) rfl) (pv 1) (pv 2) (fun _ _ => rfl))) (blkOk_by (N := ["record", "found", "at", "part"]) (sc := defScope s_law_goes_round) (by decide +kernel)) (fun _ _ _ _ _ => pg_name (i := 3) sc_law_goes_round.nd rfl (Or.inl rfl)) (fun _ _ _ _ _ => pts_one (pt_val (pe_callB (zisi (K := K) rfl) (by rfl) m_isinstance (by decide +kernel) (pa_cons (pv 3) (pa_cons (pe_bltn (v := .ty "bool") (by rfl) m_bool (by decide +kernel) rfl) pa_nil))))) (fun _ _ _ _ _ => pv 3)) (pe_lst (pa_nil)) (nomark _)) (pss_cons (ps_ret (pe_bl)) (pss_nil)) (pss_nil)) (pss_cons (ps_if (pt_not (pt_val (pe_call c_law_leads.ok (hr.mono (by decide)) (by rfl) c_law_leads.g c_law_leads.kp c_law_leads.b .nil pass0 (pa_cons (pe_ix (zix_list (K := K) rfl) (pv 1) (pv 2) (fun _ _ => rfl)) (pa_cons (pe_ix (zix_list (K := K) rfl) (pv 1) (pe_op op_mod (pe_op op_add (pv 2) (pe_int)) (pe_callB (zlen (K := K) rfl) (by rfl) m_len (by decide +kernel) (pa_cons (pv 1) (pa_nil)))) (fun _ _ => rfl)) (pa_nil)))))) (pss_cons (ps_ret (pe_bl)) (pss_nil)) (pss_nil)) (pss_nil))))) (pss_cons (ps_ret (pe_bl)) (pss_nil))), ?_⟩
    obtain ⟨v_record__0_, v_record__1_, t_record_, d_record__0_, d_record__1_⟩ := d_record_
    refine h_nmG (P := fun x => LV K amb Ho v_record__0_ x) hw d_record__0_ (fun record__0_ d_record__0_ hw => ?_)
    refine h_nmG (P := fun x => LV K amb Ho v_record__1_ x) hw d_record__1_ (fun record__1_ d_record__1_ hw => ?_)
    refine y_ifS ?_
    refine y_or ?_
    refine y_not ?_
    refine y_tB ?_
    refine y_cb ?_
    refine y_cons ?_
    refine y_var rfl ?_
    refine y_cons (y_c (y_nil ?_))
    refine y_isi (x := _) (D.mo d_found_ z.le) (b := true) (by decide +kernel) ?_
    refine ⟨_, rfl, ?_⟩
    refine w_orJ hw (fun (s : Bool) (v : Bool) (H2 : Hp) => ∃ (Ho2 : Hp), Same Ho Ho2 ∧ Zs amb H2 Ho2 ∧ v = s) (fun hb hw => ?_) (fun hb hw => ?_) ?_
    · exact (run_ret hw) _ _ ⟨_, (Same.refl _), z, rfl⟩
    · refine y_test ?_
      refine y_op ?_
      refine y_var rfl ?_
      refine k_lst ?_
      refine y_nil ?_
      refine k_lstk (K := K) (xs := ([] : (List (P4 Int Int Int Int)))) z DqAll.nil (by show 0 ≤ sizeLine; decide) (fun H p1 ws2 z d3 => ?_)
      replace z : Zs ([(p1, HO.lst ws2)] ++ amb) H Ho := z
      have o4 := OL.mk (p := p1) d3
      refine y_eqD (D.mo d_found_ z.le) (LV.dp (OL.lv o4 mg0) z) hw.1 ?_
      replace hw := (run_gd hw).2
      refine ⟨_, rfl, ?_⟩
      replace z : Zs amb _ _ := z.go [[(p1, HO.lst ws2)]] amb []
      exact (run_ret hw) _ _ ⟨_, (Same.refl _), z, rfl⟩
    rintro t5 v H ⟨Ho, e, z, rfl⟩ hw
    replace d_found_ := D.mo d_found_ e
    replace t_record_ := TupAt.mo t_record_ e
    replace d_record__0_ := LV.mo d_record__0_ e
    replace d_record__1_ := LV.mo d_record__1_ e
    have es8 := (Same.refl _).trans e
    refine y_cases hw (fun hb hw => ?_) (fun hb hw => ?_)
    · refine y_ret ?_
      refine y_c ?_
      exact (run_ret hw) _ _ _ es8 z (Dq.bl _)
    · refine y_nxS ?_
      refine y_for ?_
      refine k_iR1 ?_
      refine y_cons ?_
      refine y_cb ?_
      refine y_cons ?_
      refine y_var rfl ?_
      refine y_nil ?_
      refine y_len (LV.of d_found_) z ?_
      refine y_nil ?_
      refine k_srcR1 (K := K) (Ho := Ho) hw.1 (fun J T => ?_)
      replace hw := (run_gd hw).2
      refine y_forC T hw (fun (s : Unit) (σ : L2.St) (H Ho : Hp) => ∃ (y_at_ : Option V), σ = [some v_record_, some v_found_, y_at_, none] ∧ Zs amb H Ho) ⟨_, rfl, z⟩ ?_ ?_ ?_ ?_
      · intro s σ H Ho hI
        obtain ⟨y_at_, rfl, z⟩ := hI
        exact ⟨_, z, mgN⟩
      · intro s σ H Ho H2 Ho2 hI e t
        obtain ⟨y_at_, rfl, z⟩ := hI
        exact ⟨_, rfl, t _ z⟩
      · intro at_ v_at_ s σ H Ho N B e hI d_at_ hw
        obtain ⟨y_at_, rfl, z⟩ := hI
        replace d_found_ := D.mo d_found_ e
        replace t_record_ := TupAt.mo t_record_ e
        replace d_record__0_ := LV.mo d_record__0_ e
        replace d_record__1_ := LV.mo d_record__1_ e
        have es9 := es8.trans e
        obtain rfl := d_int d_at_
        refine y_gname (σ' := [some v_record_, some v_found_, some (V.int at_), none]) rfl ?_
        refine y_ifS ?_
        refine y_or ?_
        refine y_not ?_
        refine y_tB ?_
        refine y_cb ?_
        refine y_cons ?_
        refine y_op ?_
        refine y_var rfl ?_
        refine y_var rfl ?_
        refine y_ixL (LV.of d_found_) z hw (fun t10 w d11 hw => ?_)
        refine y_cons (y_c (y_nil ?_))
        refine y_isi (x := _) (D.mo d11 z.le) (b := true) (by decide +kernel) ?_
        refine ⟨_, rfl, ?_⟩
        refine w_orJ hw (fun (s : Bool) (v : Bool) (H2 : Hp) => ∃ (Ho2 : Hp), Same Ho Ho2 ∧ Zs amb H2 Ho2 ∧ v = s) (fun hb hw => ?_) (fun hb hw => ?_) ?_
        · exact (run_ret hw) _ _ ⟨_, (Same.refl _), z, rfl⟩
        · refine y_test ?_
          refine y_op ?_
          refine y_op ?_
          refine y_var rfl ?_
          refine y_var rfl ?_
          refine y_ixL (LV.of d_found_) z hw (fun t12 w d13 hw => ?_)
          refine y_op ?_
          refine y_var rfl ?_
          refine y_c ?_
          refine p_ix1 t_record_ z ?_
          refine y_notInD (D.mo d13 z.le) (LV.dp (LV.sub d_record__1_ mgE) z) hw.1 ?_
          replace hw := (run_gd hw).2
          refine ⟨_, rfl, ?_⟩
          exact (run_ret hw) _ _ ⟨_, (Same.refl _), z, rfl⟩
        rintro t14 v H ⟨Ho, e, z, rfl⟩ hw
        replace d_found_ := D.mo d_found_ e
        replace t_record_ := TupAt.mo t_record_ e
        replace d_record__0_ := LV.mo d_record__0_ e
        replace d_record__1_ := LV.mo d_record__1_ e
        have es17 := (Same.refl _).trans e
        refine y_cases hw (fun hb hw => ?_) (fun hb hw => ?_)
        · refine y_ret ?_
          refine y_c ?_
          exact (ctl_rt (run_ret hw)) _ _ _ (es9.trans es17) z (Dq.bl _)
        · refine y_nxS ?_
          refine y_ifS ?_
          refine y_test ?_
          refine y_op ?_
          refine y_lc ?_
          refine k_iTup ?_
          refine y_op ?_
          refine y_var rfl ?_
          refine y_var rfl ?_
          refine y_ixL (LV.of d_found_) z hw (fun t18 w d19 hw => ?_)
          refine k_srcT (xs := ([t18.a, t18.b, t18.c, t18.d] : (List Int))) d19 rfl z (fun J T => ?_)
          refine y_lcG z mgN T hw (fun r20 part_ v_part_ H Ho N N' e z d_part_ hw => ?_) (fun t25 H Ho e hw p22 ws23 z d24 => ?_)
          · replace z : Zs ([r20] ++ amb) H Ho := z
            replace d_found_ := D.mo d_found_ e
            replace t_record_ := TupAt.mo t_record_ e
            replace d_record__0_ := LV.mo d_record__0_ e
            replace d_record__1_ := LV.mo d_record__1_ e
            have es21 := es17.trans e
            obtain rfl := d_int d_part_
            refine y_gname (σ' := [some v_record_, some v_found_, some (V.int at_), some (V.int part_)]) rfl ?_
            refine ⟨rfl, ?_⟩
            refine y_tB ?_
            refine y_cb ?_
            refine y_cons ?_
            refine y_var rfl ?_
            refine y_cons (y_c (y_nil ?_))
            refine y_isi (x := part_) (Dq.int _) (b := false) (by decide +kernel) ?_
            refine ⟨_, rfl, ?_⟩
            refine w_two (fun hb => ?_) (fun hb => ?_)
            · replace hw := run_itT (run_ret hw) hb
              refine y_var rfl ?_
              exact (run_ret hw) _ _ _ (Same.refl _) z (Dq.int _)
            · exact run_itF (run_ret hw) hb _ _ (Same.refl _) z
          replace d_found_ := D.mo d_found_ e
          replace t_record_ := TupAt.mo t_record_ e
          replace d_record__0_ := LV.mo d_record__0_ e
          replace d_record__1_ := LV.mo d_record__1_ e
          have es26 := es17.trans e
          replace z : Zs ([(p22, HO.lst ws23)] ++ amb) H Ho := z
          have o27 := OL.mk (p := p22) d24
          refine k_lst ?_
          refine y_nil ?_
          refine k_lstk (K := K) (xs := ([] : (List Int))) z DqAll.nil (by show 0 ≤ sizeLine; decide) (fun H p28 ws29 z d30 => ?_)
          replace z : Zs ([(p28, HO.lst ws29)] ++ ([(p22, HO.lst ws23)] ++ amb)) H Ho := z
          have o31 := OL.mk (p := p28) d30
          refine y_neD (LV.dp (OL.lv o27 (mgS mg0)) z) (LV.dp (OL.lv o31 mg0) z) hw.1 ?_
          replace hw := (run_gd hw).2
          refine ⟨_, rfl, ?_⟩
          refine y_cases hw (fun hb hw => ?_) (fun hb hw => ?_)
          · replace z : Zs amb _ _ := z.go [[(p28, HO.lst ws29)], [(p22, HO.lst ws23)]] amb []
            refine y_ret ?_
            refine y_c ?_
            exact (ctl_rt (run_ret hw)) _ _ _ (es9.trans es26) z (Dq.bl _)
          · refine y_nxS ?_
            replace z : Zs amb _ _ := z.go [[(p28, HO.lst ws29)], [(p22, HO.lst ws23)]] amb []
            refine y_ifS ?_
            refine y_not ?_
            refine y_tB ?_
            refine y_call ?_
            refine y_cons ?_
            refine y_op ?_
            refine y_var rfl ?_
            refine y_var rfl ?_
            refine y_ixL (LV.of d_found_) z hw (fun t32 w d33 hw => ?_)
            refine y_cons ?_
            refine y_op ?_
            refine y_var rfl ?_
            refine y_op ?_
            refine y_op ?_
            refine y_var rfl ?_
            refine y_c ?_
            refine y_i0 ?_
            refine y_cb ?_
            refine y_cons ?_
            refine y_var rfl ?_
            refine y_nil ?_
            refine y_len (LV.of d_found_) z ?_
            refine y_ig hw.1 ?_
            replace hw := (run_gd hw).2
            refine y_ixL (LV.of d_found_) z hw (fun t34 w d35 hw => ?_)
            refine y_nil ?_
            refine ⟨amb, _, _, _, _, _, rfl, z, d33, d35, ?_⟩
            refine run_mono3 hw (fun t36 hw v H Ho e z d37 => ?_)
            replace d_found_ := D.mo d_found_ e
            replace t_record_ := TupAt.mo t_record_ e
            replace d_record__0_ := LV.mo d_record__0_ e
            replace d_record__1_ := LV.mo d_record__1_ e
            have es39 := es26.trans e
            first | obtain rfl := d_bool d37 | cases d_bool d37
            refine ⟨_, rfl, ?_⟩
            refine y_cases hw (fun hb hw => ?_) (fun hb hw => ?_)
            · refine y_ret ?_
              refine y_c ?_
              exact (ctl_rt (run_ret hw)) _ _ _ (es9.trans es39) z (Dq.bl _)
            · refine y_nxS ?_
              exact ctl_nx (run_ret hw) _ _ _ es39 ⟨_, rfl, z⟩
      intro s σ H Ho e hI hw
      obtain ⟨y_at_, rfl, z⟩ := hI
      replace t_record_ := TupAt.mo t_record_ e
      replace d_record__0_ := LV.mo d_record__0_ e
      replace d_record__1_ := LV.mo d_record__1_ e
      have es40 := es8.trans e
      refine y_ret ?_
      refine y_c ?_
      exact (run_ret hw) _ _ _ es40 z (Dq.bl _)
def sp_law_keeps (K : PySem.W.Frag) (cl : Nat → Addr) : Sp := fun vs H Q E => ∃ (amb : Grp) (Ho : Hp) (v0 : V) (x0 : ((List Int) × (List (P4 Int Int Int Int)))) (v1 : V) (x1 : (List Int)), vs = [v0, v1] ∧ Zs amb H Ho ∧ LP K amb Ho v0 x0 ∧ Z.D K Ho v1 x1 ∧ (m_law_keeps x0 x1).run fun r => ∀ v H' Ho', Same Ho Ho' → Zs amb H' Ho' → Z.D K Ho' v r → Q v H'
abbrev s_law_keeps : Stmt := topS 30
theorem sc_law_keeps : FnScope ["record", "order", "hand", "spots", "tie"] ["record", "order"] (defScope s_law_keeps) := ⟨rfl, rfl, rfl, by decide +kernel, rfl, by decide +kernel, by decide +kernel⟩
theorem ok_law_keeps {f : Addr} {fd : FuncData} (F : Fun K "_law_keeps" "_law_keeps" s_law_keeps f fd) {f_law_spots : Addr} {fd_law_spots : FuncData} (c_law_spots : Cal P w K mg base CX0 "_law_spots" ["order"] 1 (sp_law_spots K cl) f_law_spots fd_law_spots) (m_isinstance : mg "isinstance" = none) (m_list : mg "list" = none) (m_len : mg "len" = none) (m_sum : mg "sum" = none) (m_range : mg "range" = none) :
    FnOk P w K mg base CX0 2 f fd ["record", "order"] (sp_law_keeps K cl) := by
  refine F.ok sc_law_keeps (fun vs H Q E h => ?_) (fun cdv A outer s H vs Q E hr h => ?_)
  · obtain ⟨amb, Ho, v_record_, record_, v_order_, order_, rfl, _⟩ := h
    rfl
  · obtain ⟨amb, Ho, v_record_, record_, v_order_, order_, rfl, z, d_record_, d_order_, hw⟩ := h
    refine ⟨_, pss_cons (ps_if (PW.pt (pw_or (pt_not (pt_val (pe_callB (zisi (K := K) rfl) (by rfl) m_isinstance (by decide +kernel) (pa_cons (pv 1) (pa_cons (pe_bltn (v := .ty "list") (by rfl) m_list (by decide +kernel) rfl) pa_nil))))) (pw_or1 (pt_cmpR (op_ne) (pe_callB (zlen (K := K) rfl) (by rfl) m_len (by decide +kernel) (pa_cons (pv 1) (pa_nil))) (pe_callB (zsum (K := K) rfl rfl) (by rfl) m_sum (by decide +kernel) (pa_cons (pe_ix (zix_tup (K := K) rfl) (pv 0) (pe_int) (fun _ _ => rfl)) (pa_nil))) (nomark _))))) (pss_cons (ps_ret (pe_bl)) (pss_nil)) (pss_nil)) (pss_cons (ps_if (pt_cmpR (zop_neD (K := K) rfl hr.units) (pe_lc (own := [("hand", 2)]) rfl sc_law_keeps.nd (pi_range1 (by rfl) m_range (pa_cons (pe_callB (zlen (K := K) rfl) (by rfl) m_len (by decide +kernel) (pa_cons (pe_ix (zix_tup (K := K) rfl) (pv 0) (pe_int) (fun _ _ => rfl)) (pa_nil))) (pa_nil))) (blkOk_by (N := ["record", "order", "hand", "spots", "tie"]) (sc := defScope s_law_keeps) (by decide +kernel)) (fun _ _ _ _ _ => pg_name (i := 2) sc_law_keeps.nd rfl (Or.inl rfl)) (fun _ _ _ _ _ => pts_nil) (fun _ _ _ _ _ => zpe_bm (K := K) rfl PySem.F.plainAttrs_list PySem.F.slot_list_count PySem.F.type_list_count (zmt_cnt (K := K) rfl) (pv 1) (pa_cons (pv 2) (pa_nil)))) (pe_ix (zix_tup (K := K) rfl) (pv 0) (pe_int) (fun _ _ => rfl)) (nomark _)) (pss_cons (ps_ret (pe_bl)) (pss_nil)) (pss_nil)) (pss_cons (ps_set (i := 3) sc_law_keeps.nd rfl (Or.inr rfl) (pe_call c_law_spots.ok (hr.mono (by decide)) (by rfl) c_law_spots.g c_law_spots.kp c_law_spots.b .nil pass0 (pa_cons (pv 1) (pa_nil)))) (pss_cons (ps_ret (pe_cmpR (zop_eqD (K := K) rfl hr.units) (pe_lc (own := [("tie", 4)]) rfl sc_law_keeps.nd (zpi_list (K := K) rfl (pe_ix (zix_tup (K := K) rfl) (pv 0) (pe_int) (fun _ _ => rfl))) (blkOk_by (N := ["record", "order", "hand", "spots", "tie"]) (sc := defScope s_law_keeps) (by decide +kernel)) (fun _ _ _ _ _ => pg_name (i := 4) sc_law_keeps.nd rfl (Or.inl rfl)) (fun _ _ _ _ _ => pts_one (pt_cmpR (op_gt) (pe_dget (room1 hr) (pv 3) (pe_slice (zsl_tup (K := K) rfl) (pv 4) po_none (po_some (pe_int))) (fun _ _ => rfl)) (pe_dget (room1 hr) (pv 3) (pe_slice (zsl_tup (K := K) rfl) (pv 4) (po_some (pe_int)) po_none) (fun _ _ => rfl)) (nomark _))) (fun _ _ _ _ _ => pv 4)) (pe_lst (pa_nil)) (nomark _))) (pss_nil)))), ?_⟩
    obtain ⟨v_record__0_, v_record__1_, t_record_, d_record__0_, d_record__1_⟩ := d_record_
    refine h_nmG (P := fun x => LV K amb Ho v_record__0_ x) hw d_record__0_ (fun record__0_ d_record__0_ hw => ?_)
    refine h_nmG (P := fun x => LV K amb Ho v_record__1_ x) hw d_record__1_ (fun record__1_ d_record__1_ hw => ?_)
    refine y_ifS ?_
    refine y_or ?_
    refine y_not ?_
    refine y_tB ?_
    refine y_cb ?_
    refine y_cons ?_
    refine y_var rfl ?_
    refine y_cons (y_c (y_nil ?_))
    refine y_isi (x := _) (D.mo d_order_ z.le) (b := true) (by decide +kernel) ?_
    refine ⟨_, rfl, ?_⟩
    refine w_orJ hw (fun (s : Bool) (v : Bool) (H2 : Hp) => ∃ (Ho2 : Hp), Same Ho Ho2 ∧ Zs amb H2 Ho2 ∧ v = s) (fun hb hw => ?_) (fun hb hw => ?_) ?_
    · exact (run_ret hw) _ _ ⟨_, (Same.refl _), z, rfl⟩
    · refine y_test ?_
      refine y_op ?_
      refine y_cb ?_
      refine y_cons ?_
      refine y_var rfl ?_
      refine y_nil ?_
      refine y_len (LV.of d_order_) z ?_
      refine y_cb ?_
      refine y_cons ?_
      refine y_op ?_
      refine y_var rfl ?_
      refine y_c ?_
      refine p_ix0 t_record_ z ?_
      refine y_nil ?_
      refine y_sum (LV.sub d_record__0_ mgE) z ?_
      refine y_nei ?_
      refine ⟨_, rfl, ?_⟩
      exact (run_ret hw) _ _ ⟨_, (Same.refl _), z, rfl⟩
    rintro t1 v H ⟨Ho, e, z, rfl⟩ hw
    replace d_order_ := D.mo d_order_ e
    replace t_record_ := TupAt.mo t_record_ e
    replace d_record__0_ := LV.mo d_record__0_ e
    replace d_record__1_ := LV.mo d_record__1_ e
    have es4 := (Same.refl _).trans e
    refine y_cases hw (fun hb hw => ?_) (fun hb hw => ?_)
    · refine y_ret ?_
      refine y_c ?_
      exact (run_ret hw) _ _ _ es4 z (Dq.bl _)
    · refine y_nxS ?_
      refine y_ifS ?_
      refine y_test ?_
      refine y_op ?_
      refine y_lc ?_
      refine k_iR1 ?_
      refine y_cons ?_
      refine y_cb ?_
      refine y_cons ?_
      refine y_op ?_
      refine y_var rfl ?_
      refine y_c ?_
      refine p_ix0 t_record_ z ?_
      refine y_nil ?_
      refine y_len (LV.sub d_record__0_ mgE) z ?_
      refine y_nil ?_
      refine k_srcR1 (K := K) (Ho := Ho) hw.1 (fun J T => ?_)
      replace hw := (run_gd hw).2
      refine y_lcG z mgN T hw (fun r5 hand_ v_hand_ H Ho N N' e z d_hand_ hw => ?_) (fun t10 H Ho e hw p7 ws8 z d9 => ?_)
      · replace z : Zs ([r5] ++ amb) H Ho := z
        replace d_order_ := D.mo d_order_ e
        replace t_record_ := TupAt.mo t_record_ e
        replace d_record__0_ := LV.mo d_record__0_ e
        replace d_record__1_ := LV.mo d_record__1_ e
        have es6 := es4.trans e
        obtain rfl := d_int d_hand_
        refine y_gname (σ' := [some v_record_, some v_order_, some (V.int hand_), none, none]) rfl ?_
        refine ⟨rfl, ?_⟩
        refine y_yes (w_t ?_)
        replace hw := run_itT (run_bret hw) rfl
        refine y_bm ?_
        refine y_var rfl ?_
        refine g_tyL (LV.of d_order_) z ?_
        refine y_cons ?_
        refine y_var rfl ?_
        refine y_nil ?_
        refine y_cnt (LV.of d_order_) z ?_
        exact (run_ret hw) _ _ _ (Same.refl _) z (Dq.int _)
      replace d_order_ := D.mo d_order_ e
      replace t_record_ := TupAt.mo t_record_ e
      replace d_record__0_ := LV.mo d_record__0_ e
      replace d_record__1_ := LV.mo d_record__1_ e
      have es11 := es4.trans e
      replace z : Zs ([(p7, HO.lst ws8)] ++ amb) H Ho := z
      have o12 := OL.mk (p := p7) d9
      refine y_op ?_
      refine y_var rfl ?_
      refine y_c ?_
      refine p_ix0 t_record_ z ?_
      refine y_neD (LV.dp (OL.lv o12 mg0) z) (LV.dp (LV.sub d_record__0_ (mgS mgE)) z) hw.1 ?_
      replace hw := (run_gd hw).2
      refine ⟨_, rfl, ?_⟩
      refine y_cases hw (fun hb hw => ?_) (fun hb hw => ?_)
      · replace z : Zs amb _ _ := z.go [[(p7, HO.lst ws8)]] amb []
        refine y_ret ?_
        refine y_c ?_
        exact (run_ret hw) _ _ _ es11 z (Dq.bl _)
      · refine y_nxS ?_
        replace z : Zs amb _ _ := z.go [[(p7, HO.lst ws8)]] amb []
        refine l_asg (fun v => [_, _, _, some v, _]) (fun _ => rfl) ?_
        refine y_call ?_
        refine y_cons ?_
        refine y_var rfl ?_
        refine y_nil ?_
        refine ⟨amb, _, _, _, rfl, z, (LV.of d_order_), ?_⟩
        refine run_mono3 hw (fun t13 hw v g15 H Ho e z d14 => ?_)
        replace d_order_ := D.mo d_order_ e
        replace t_record_ := TupAt.mo t_record_ e
        replace d_record__0_ := LV.mo d_record__0_ e
        replace d_record__1_ := LV.mo d_record__1_ e
        have es16 := es11.trans e
        refine d_o hw z d14 (fun spots_ v_spots_ g_spots_ z d_spots_ hw => ?_)
        refine y_ret ?_
        refine y_op ?_
        refine y_lc ?_
        refine k_iList ?_
        refine y_op ?_
        refine y_var rfl ?_
        refine y_c ?_
        refine p_ix1 t_record_ z ?_
        refine k_srcL (r0 := amb) (LV.sub d_record__1_ mgE) (mgS mgE) z (fun J T => ?_)
        refine y_lcG z (mgS mgE) T hw (fun r17 tie_ v_tie_ H Ho N N' e z d_tie_ hw => ?_) (fun t30 H Ho e hw p27 ws28 z d29 => ?_)
        · replace z : Zs ([r17] ++ (g_spots_ ++ amb)) H Ho := z
          replace t_record_ := TupAt.mo t_record_ e
          replace d_record__0_ := LV.mo d_record__0_ e
          replace d_record__1_ := LV.mo d_record__1_ e
          replace d_spots_ := OD.mo d_spots_ e
          have es18 := es16.trans e
          refine y_gname (σ' := [some v_record_, some v_order_, none, some v_spots_, some v_tie_]) rfl ?_
          refine ⟨rfl, ?_⟩
          refine y_test ?_
          refine y_op ?_
          refine y_dget ?_
          refine y_var rfl ?_
          refine y_sl ?_
          refine y_var rfl ?_
          refine y_noPart ?_
          refine y_part ?_
          refine y_c ?_
          refine ⟨_, rfl, ?_⟩
          refine y_slT (y := (tie_.a, tie_.b)) d_tie_ z ⟨_, rfl, by show ¬ (HT.sIx 4 0 none = 0 ∧ HT.sIx 4 4 (some (2 : Int)) = 4); decide, by rfl⟩ (fun p H Ho e z d19 => ?_)
          replace t_record_ := TupAt.mo t_record_ e
          replace d_record__0_ := LV.mo d_record__0_ e
          replace d_record__1_ := LV.mo d_record__1_ e
          replace d_spots_ := OD.mo d_spots_ e
          replace d_tie_ := D.mo d_tie_ e
          have es20 := (Same.refl _).trans e
          refine g_dget ⟨_, d_spots_, (mgS mg0)⟩ z d19 hw (fun t21 w d22 hw => ?_)
          first | obtain rfl := d_int d22 | cases d_int d22
          refine y_dget ?_
          refine y_var rfl ?_
          refine y_sl ?_
          refine y_var rfl ?_
          refine y_part ?_
          refine y_c ?_
          refine ⟨_, rfl, ?_⟩
          refine y_noPart ?_
          refine y_slT (y := (tie_.c, tie_.d)) d_tie_ z ⟨_, rfl, by show ¬ (HT.sIx 4 0 (some (2 : Int)) = 0 ∧ HT.sIx 4 4 none = 4); decide, by rfl⟩ (fun p H Ho e z d23 => ?_)
          replace t_record_ := TupAt.mo t_record_ e
          replace d_record__0_ := LV.mo d_record__0_ e
          replace d_record__1_ := LV.mo d_record__1_ e
          replace d_spots_ := OD.mo d_spots_ e
          replace d_tie_ := D.mo d_tie_ e
          have es24 := es20.trans e
          refine g_dget ⟨_, d_spots_, (mgS mg0)⟩ z d23 hw (fun t25 w d26 hw => ?_)
          first | obtain rfl := d_int d26 | cases d_int d26
          refine y_i0 ?_
          refine ⟨_, rfl, ?_⟩
          refine w_two (fun hb => ?_) (fun hb => ?_)
          · replace hw := run_itT (run_ret hw) hb
            refine y_var rfl ?_
            exact (run_ret hw) _ _ _ es24 z d_tie_
          · exact run_itF (run_ret hw) hb _ _ es24 z
        replace t_record_ := TupAt.mo t_record_ e
        replace d_record__0_ := LV.mo d_record__0_ e
        replace d_record__1_ := LV.mo d_record__1_ e
        replace d_spots_ := OD.mo d_spots_ e
        have es31 := es16.trans e
        replace z : Zs ([(p27, HO.lst ws28)] ++ (g_spots_ ++ amb)) H Ho := z
        have o32 := OL.mk (p := p27) d29
        refine k_lst ?_
        refine y_nil ?_
        refine k_lstk (K := K) (xs := ([] : (List (P4 Int Int Int Int)))) z DqAll.nil (by show 0 ≤ sizeLine; decide) (fun H p33 ws34 z d35 => ?_)
        replace z : Zs ([(p33, HO.lst ws34)] ++ ([(p27, HO.lst ws28)] ++ (g_spots_ ++ amb))) H Ho := z
        have o36 := OL.mk (p := p33) d35
        refine y_eqD (LV.dp (OL.lv o32 (mgS mg0)) z) (LV.dp (OL.lv o36 mg0) z) hw.1 ?_
        replace hw := (run_gd hw).2
        replace z : Zs amb _ _ := z.go [[(p33, HO.lst ws34)], [(p27, HO.lst ws28)], g_spots_] amb []
        exact (run_ret hw) _ _ _ es31 z (Dq.bl _)
def sp_law (K : PySem.W.Frag) (cl : Nat → Addr) : Sp := fun vs H Q E => ∃ (amb : Grp) (Ho : Hp) (v0 : V) (x0 : (List Int)), vs = [v0] ∧ Zs amb H Ho ∧ LVg K amb Ho v0 x0 ∧ (m_law x0).run fun r => ∀ v H' Ho', Zs amb H' Ho' → Z.D K Ho' v r → Q v H'
abbrev s_law : Stmt := topS 31
theorem sc_law : FnScope ["script", "bag", "great", "planted", "record", "handed", "order", "found", "held"] ["script"] (defScope s_law) := ⟨rfl, rfl, rfl, by decide +kernel, rfl, by decide +kernel, by decide +kernel⟩
theorem ok_law {f : Addr} {fd : FuncData} (F : Fun K "law" "law" s_law f fd) {f_law_bag : Addr} {fd_law_bag : FuncData} (c_law_bag : Cal P w K mg base CX0 "_law_bag" ["script"] 1 (sp_law_bag K cl) f_law_bag fd_law_bag) {f_law_draw : Addr} {fd_law_draw : FuncData} (c_law_draw : Cal P w K mg base CX0 "_law_draw" ["bag", "many"] 2 (sp_law_draw K cl) f_law_draw fd_law_draw) {f_law_record : Addr} {fd_law_record : FuncData} (c_law_record : Cal P w K mg base CX0 "_law_record" ["bag", "great"] 4 (sp_law_record K cl) f_law_record fd_law_record) {f_law_ring_in : Addr} {fd_law_ring_in : FuncData} (c_law_ring_in : Cal P w K mg base CX0 "_law_ring_in" ["bag", "record", "near"] 3 (sp_law_ring_in K cl) f_law_ring_in fd_law_ring_in) {f_law_copy : Addr} {fd_law_copy : FuncData} (c_law_copy : Cal P w K mg base CX0 "_law_copy" ["record"] 1 (sp_law_copy K cl) f_law_copy fd_law_copy) {f_first_order : Addr} {fd_first_order : FuncData} (c_first_order : Cal P w K mg base CX0 "first_order" ["record"] 3 (sp_first_order K cl) f_first_order fd_first_order) {f_ring : Addr} {fd_ring : FuncData} (c_ring : Cal P w K mg base CX0 "ring" ["record"] 3 (sp_ring K cl) f_ring fd_ring) {f_law_keeps : Addr} {fd_law_keeps : FuncData} (c_law_keeps : Cal P w K mg base CX0 "_law_keeps" ["record", "order"] 2 (sp_law_keeps K cl) f_law_keeps fd_law_keeps) {f_law_fewest : Addr} {fd_law_fewest : FuncData} (c_law_fewest : Cal P w K mg base CX0 "_law_fewest" ["ties"] 3 (sp_law_fewest K cl) f_law_fewest fd_law_fewest) {f_law_goes_round : Addr} {fd_law_goes_round : FuncData} (c_law_goes_round : Cal P w K mg base CX0 "_law_goes_round" ["record", "found"] 2 (sp_law_goes_round K cl) f_law_goes_round fd_law_goes_round) {f_ring_shows : Addr} {fd_ring_shows : FuncData} (c_ring_shows : Cal P w K mg base CX0 "ring_shows" ["record", "some"] 3 (sp_ring_shows K cl) f_ring_shows fd_ring_shows) (m_int : mg "int" = none) (m_len : mg "len" = none) (m_list : mg "list" = none) :
    FnOk P w K mg base CX0 5 f fd ["script"] (sp_law K cl) := by
  refine F.ok sc_law (fun vs H Q E h => ?_) (fun cdv A outer s H vs Q E hr h => ?_)
  · obtain ⟨amb, Ho, v_script_, script_, rfl, _⟩ := h
    rfl
  · obtain ⟨amb, Ho, v_script_, script_, rfl, z, d_script_, hw⟩ := h
    refine ⟨_, pss_cons (ps_set (i := 1) sc_law.nd rfl (Or.inl rfl) (pe_call c_law_bag.ok (hr.mono (by decide)) (by rfl) c_law_bag.g c_law_bag.kp c_law_bag.b .nil pass0 (pa_cons (pv 0) (pa_nil)))) (pss_cons (ps_set (i := 2) sc_law.nd rfl (Or.inl rfl) (pe_callTy call_int1 (by rfl) m_int (by decide +kernel) (pa_cons (pe_cmpR (op_eq) (pe_call c_law_draw.ok (hr.mono (by decide)) (by rfl) c_law_draw.g c_law_draw.kp c_law_draw.b .nil pass0 (pa_cons (pv 1) (pa_cons (pe_int) (pa_nil)))) (pe_int) (nomark _)) (pa_nil)))) (pss_cons (ps_set (i := 3) sc_law.nd rfl (Or.inl rfl) (pe_call c_law_draw.ok (hr.mono (by decide)) (by rfl) c_law_draw.g c_law_draw.kp c_law_draw.b .nil pass0 (pa_cons (pv 1) (pa_cons (pe_int) (pa_nil))))) (pss_cons (ps_set (i := 4) sc_law.nd rfl (Or.inl rfl) (pe_call c_law_record.ok (hr.mono (by decide)) (by rfl) c_law_record.g c_law_record.kp c_law_record.b .nil pass0 (pa_cons (pv 1) (pa_cons (pv 2) (pa_nil))))) (pss_cons (ps_if (pt_cmpR (op_eq) (pv 3) (pe_int) (nomark _)) (pss_cons (ps_expr (pe_call c_law_ring_in.ok (hr.mono (by decide)) (by rfl) c_law_ring_in.g c_law_ring_in.kp c_law_ring_in.b .nil pass0 (pa_cons (pv 1) (pa_cons (pv 4) (pa_cons (pe_bl) (pa_nil)))))) (pss_nil)) (pss_nil)) (pss_cons (ps_set (i := 5) sc_law.nd rfl (Or.inl rfl) (pe_call c_law_copy.ok (hr.mono (by decide)) (by rfl) c_law_copy.g c_law_copy.kp c_law_copy.b .nil pass0 (pa_cons (pv 4) (pa_nil)))) (pss_cons (ps_set (i := 6) sc_law.nd rfl (Or.inl rfl) (pe_call c_first_order.ok (hr.mono (by decide)) (by rfl) c_first_order.g c_first_order.kp c_first_order.b .nil pass0 (pa_cons (pv 5) (pa_nil)))) (pss_cons (ps_set (i := 7) sc_law.nd rfl (Or.inl rfl) (pe_call c_ring.ok (hr.mono (by decide)) (by rfl) c_ring.g c_ring.kp c_ring.b .nil pass0 (pa_cons (pv 5) (pa_nil)))) (pss_cons (ps_if (pt_cmpR (zop_neD (K := K) rfl hr.units) (pv 5) (pv 4) (nomark _)) (pss_cons (ps_ret (pe_bl)) (pss_nil)) (pss_nil)) (pss_cons (ps_if (pt_cmpR (op_isN) (pv 7) (pe_non) (nomark _)) (pss_cons (ps_ret (pe_and (pe_cmpR (op_notN) (pv 6) (pe_non) (nomark _)) (pe_and (pe_call c_law_keeps.ok (hr.mono (by decide)) (by rfl) c_law_keeps.g c_law_keeps.kp c_law_keeps.b .nil pass0 (pa_cons (pv 4) (pa_cons (pv 6) (pa_nil)))) (pe_one (pe_cmpR (op_eq) (pe_call c_law_fewest.ok (hr.mono (by decide)) (by rfl) c_law_fewest.g c_law_fewest.kp c_law_fewest.b .nil pass0 (pa_cons (pe_ix (zix_tup (K := K) rfl) (pv 4) (pe_int) (fun _ _ => rfl)) (pa_nil))) (pe_int) (nomark _)))))) (pss_nil)) (pss_nil)) (pss_cons (ps_if (PW.pt (pw_or (pt_cmpR (op_notN) (pv 6) (pe_non) (nomark _)) (pw_or (pt_not (pt_val (pe_call c_law_goes_round.ok (hr.mono (by decide)) (by rfl) c_law_goes_round.g c_law_goes_round.kp c_law_goes_round.b .nil pass0 (pa_cons (pv 4) (pa_cons (pv 7) (pa_nil)))))) (pw_or1 (pt_cmpR (op_ne) (pe_callB (zlen (K := K) rfl) (by rfl) m_len (by decide +kernel) (pa_cons (pv 7) (pa_nil))) (pe_call c_law_fewest.ok (hr.mono (by decide)) (by rfl) c_law_fewest.g c_law_fewest.kp c_law_fewest.b .nil pass0 (pa_cons (pe_ix (zix_tup (K := K) rfl) (pv 4) (pe_int) (fun _ _ => rfl)) (pa_nil))) (nomark _)))))) (pss_cons (ps_ret (pe_bl)) (pss_nil)) (pss_nil)) (pss_cons (ps_if (PW.pt (pw_or (pt_cmpR (op_notB) (pe_call c_ring_shows.ok (hr.mono (by decide)) (by rfl) c_ring_shows.g c_ring_shows.kp c_ring_shows.b .nil pass0 (pa_cons (pv 5) (pa_cons (pe_callTy (zlist (K := K) rfl) (by rfl) m_list (by decide +kernel) (pa_cons (pv 7) (pa_nil))) (pa_nil)))) (pe_bl) (nomark _)) (pw_or1 (pt_cmpR (op_notB) (pe_call c_ring_shows.ok (hr.mono (by decide)) (by rfl) c_ring_shows.g c_ring_shows.kp c_ring_shows.b .nil pass0 (pa_cons (pv 5) (pa_cons (pe_slice (zsl_list (K := K) rfl) (pv 7) (po_some (pe_int)) po_none) (pa_nil)))) (pe_bl) (nomark _))))) (pss_cons (ps_ret (pe_bl)) (pss_nil)) (pss_nil)) (pss_cons (ps_set (i := 8) sc_law.nd rfl (Or.inl rfl) (pe_callTy (zlist (K := K) rfl) (by rfl) m_list (by decide +kernel) (pa_cons (pv 7) (pa_nil)))) (pss_cons (ps_expr (pe_bm0 PySem.F.plainAttrs_list PySem.F.slot_list_clear PySem.F.type_list_clear mt_clear (pv 7))) (pss_cons (ps_ret (pe_cmpR (zop_eqD (K := K) rfl hr.units) (pe_call c_ring.ok (hr.mono (by decide)) (by rfl) c_ring.g c_ring.kp c_ring.b .nil pass0 (pa_cons (pv 5) (pa_nil))) (pv 8) (nomark _))) (pss_nil))))))))))))))), ?_⟩
    refine l_asg (fun v => [_, some v, _, _, _, _, _, _, _]) (fun _ => rfl) ?_
    refine y_call ?_
    refine y_cons ?_
    refine y_var rfl ?_
    refine y_nil ?_
    refine ⟨amb, _, _, _, rfl, z, (LVg.sub d_script_ mgE), ?_⟩
    refine run_mono3 hw (fun t1 hw v g3 H Ho e z d2 => ?_)
    replace d_script_ := LVg.mo d_script_ e
    have es4 := (Same.refl _).trans e
    refine h_o hw z d2 (fun bag_ v_bag_ g_bag_ z d_bag_ hw => ?_)
    refine l_asg (fun v => [_, _, some v, _, _, _, _, _, _]) (fun _ => rfl) ?_
    refine y_cb ?_
    refine y_cons ?_
    refine y_op ?_
    refine y_call ?_
    refine y_cons ?_
    refine y_var rfl ?_
    refine y_cons ?_
    refine y_c ?_
    refine y_nil ?_
    refine ⟨amb, _, _, _, _, _, _, rfl, z, d_bag_, (Dq.int _), ?_⟩
    refine run_mono2 hw (fun t5 bag_ hw v g_bag_ H Ho e z d6 d_bag_ => ?_)
    replace d6 : Z.D K Ho v t5 := d6
    replace d_bag_ : OH K Ho v_bag_ bag_ g_bag_ := d_bag_
    replace d_script_ := LVg.mo d_script_ e
    have es8 := es4.trans e
    first | obtain rfl := d_int d6 | cases d_int d6
    refine y_c ?_
    refine y_eqi ?_
    refine y_nil ?_
    refine Or.inr ⟨_, rfl, ?_⟩
    refine l_i hw (fun great_ hw => ?_)
    refine l_asg (fun v => [_, _, _, some v, _, _, _, _, _]) (fun _ => rfl) ?_
    refine y_call ?_
    refine y_cons ?_
    refine y_var rfl ?_
    refine y_cons ?_
    refine y_c ?_
    refine y_nil ?_
    refine ⟨amb, _, _, _, _, _, _, rfl, z, d_bag_, (Dq.int _), ?_⟩
    refine run_mono2 hw (fun t9 bag_ hw v g_bag_ H Ho e z d10 d_bag_ => ?_)
    replace d10 : Z.D K Ho v t9 := d10
    replace d_bag_ : OH K Ho v_bag_ bag_ g_bag_ := d_bag_
    replace d_script_ := LVg.mo d_script_ e
    have es12 := es8.trans e
    first | obtain rfl := d_int d10 | cases d_int d10
    refine l_i hw (fun planted_ hw => ?_)
    refine l_asg (fun v => [_, _, _, _, some v, _, _, _, _]) (fun _ => rfl) ?_
    refine y_call ?_
    refine y_cons ?_
    refine y_var rfl ?_
    refine y_cons ?_
    refine y_var rfl ?_
    refine y_nil ?_
    refine ⟨amb, _, _, _, _, _, _, rfl, z, d_bag_, (Dq.int _), ?_⟩
    refine run_mono2 hw (fun t13 bag_ hw v g15 g_bag_ H Ho e z d14 d_bag_ => ?_)
    replace d14 : OP K Ho v t13 g15 := d14
    replace d_bag_ : OH K Ho v_bag_ bag_ g_bag_ := d_bag_
    replace d_script_ := LVg.mo d_script_ e
    have es16 := es12.trans e
    refine p_o hw z d14 (fun record_ v_record_ g_record_ z d_record_ hw => ?_)
    refine p_open d_record_ z (fun v_record__0_ v_record__1_ g_record__0_ g_record__1_ t17 d_record__0_ d_record__1_ z => ?_)
    refine h_nmL hw d_record__0_ (fun record__0_ d_record__0_ hw => ?_)
    refine h_nmL hw d_record__1_ (fun record__1_ d_record__1_ hw => ?_)
    refine y_ifS ?_
    refine y_test ?_
    refine y_op ?_
    refine y_var rfl ?_
    refine y_c ?_
    refine y_eqi ?_
    refine ⟨_, rfl, ?_⟩
    refine w_ifJ hw (fun (s : (H5 (List Int) Int Int Int Int) × (List Int) × (List (P4 Int Int Int Int))) (σ : L2.St) (H : Hp) => ∃ Ho2, Same Ho Ho2 ∧ (fun (s : (H5 (List Int) Int Int Int Int) × (List Int) × (List (P4 Int Int Int Int))) (σ : L2.St) (H Ho : Hp) => ∃ (g_bag_ : Grp) (g_record__0_ : Grp) (g_record__1_ : Grp), σ = [some v_script_, some v_bag_, some (V.int great_), some (V.int planted_), some v_record_, none, none, none, none] ∧ Zs (g_record__0_ ++ (g_record__1_ ++ (g_bag_ ++ amb))) H Ho ∧ OH K Ho v_bag_ s.1 g_bag_ ∧ OL K Ho v_record__0_ s.2.1 g_record__0_ ∧ OL K Ho v_record__1_ s.2.2 g_record__1_) s σ H Ho2) (fun hb hw => ?_) (fun hb hw => ?_) ?_
    · refine y_drop ?_
      refine y_call ?_
      refine y_cons ?_
      refine y_var rfl ?_
      refine y_cons ?_
      refine y_var rfl ?_
      refine y_cons ?_
      refine y_c ?_
      refine y_nil ?_
      refine p_close t17 d_record__0_ d_record__1_ z (fun g18 d19 z => ?_)
      have tt20 := t17
      replace z : Zs (g_bag_ ++ (g18 ++ amb)) _ _ := z.go [g18, g_bag_] amb [1, 0]
      refine ⟨amb, _, _, _, _, _, _, _, _, _, rfl, z, d_bag_, d19, (Dq.bl _), ?_⟩
      refine run_mono3 hw ?_
      rintro ⟨t21, bag_, record_⟩ hw v g_bag_ g_record_ H Ho e z d22 d_bag_ d_record_
      replace d22 : Z.D K Ho v t21 := d22
      replace d_bag_ : OH K Ho v_bag_ bag_ g_bag_ := d_bag_
      replace d_record_ : OP K Ho v_record_ record_ g_record_ := d_record_
      replace tt20 := TupAt.mo tt20 e
      replace d_script_ := LVg.mo d_script_ e
      have es24 := (Same.refl _).trans e
      replace z : Zs (g_record_ ++ (g_bag_ ++ amb)) _ _ := z.go [g_bag_, g_record_] amb [1, 0]
      refine p_reopen tt20 d_record_ z (fun g_record__0_ g_record__1_ d_record__0_ d_record__1_ z => ?_)
      refine h_nmL hw d_record__0_ (fun record__0_ d_record__0_ hw => ?_)
      refine h_nmL hw d_record__1_ (fun record__1_ d_record__1_ hw => ?_)
      exact (run_ret hw) _ _ ⟨_, es24, ⟨_, _, _, rfl, z, d_bag_, d_record__0_, d_record__1_⟩⟩
    · refine y_nxS ?_
      exact (run_ret hw) _ _ ⟨_, (Same.refl _), ⟨_, _, _, rfl, z, d_bag_, d_record__0_, d_record__1_⟩⟩
    rintro ⟨bag_, record__0_, record__1_⟩ σ H ⟨Ho, e, g_bag_, g_record__0_, g_record__1_, rfl, z, d_bag_, d_record__0_, d_record__1_⟩ hw
    replace t17 := TupAt.mo t17 e
    replace d_script_ := LVg.mo d_script_ e
    have es25 := es16.trans e
    refine l_asg (fun v => [_, _, _, _, _, some v, _, _, _]) (fun _ => rfl) ?_
    refine y_call ?_
    refine y_cons ?_
    refine y_var rfl ?_
    refine y_nil ?_
    refine ⟨(g_record__0_ ++ (g_record__1_ ++ (g_bag_ ++ amb))), _, _, _, rfl, z, (LP.of2 t17 (OL.lv d_record__0_ mg0) (OL.lv d_record__1_ (mgS mg0))), ?_⟩
    refine run_mono3 hw (fun t26 hw v g28 H Ho e z d27 => ?_)
    replace d_bag_ := OH.mo d_bag_ e
    replace t17 := TupAt.mo t17 e
    replace d_record__0_ := OL.mo d_record__0_ e
    replace d_record__1_ := OL.mo d_record__1_ e
    replace d_script_ := LVg.mo d_script_ e
    have es29 := es25.trans e
    refine p_o hw z d27 (fun handed_ v_handed_ g_handed_ z d_handed_ hw => ?_)
    refine p_open d_handed_ z (fun v_handed__0_ v_handed__1_ g_handed__0_ g_handed__1_ t30 d_handed__0_ d_handed__1_ z => ?_)
    refine h_nmL hw d_handed__0_ (fun handed__0_ d_handed__0_ hw => ?_)
    refine h_nmL hw d_handed__1_ (fun handed__1_ d_handed__1_ hw => ?_)
    refine l_asg (fun v => [_, _, _, _, _, _, some v, _, _]) (fun _ => rfl) ?_
    refine y_call ?_
    refine y_cons ?_
    refine y_var rfl ?_
    refine y_nil ?_
    refine ⟨(g_handed__0_ ++ (g_handed__1_ ++ (g_record__0_ ++ (g_record__1_ ++ (g_bag_ ++ amb))))), _, _, _, rfl, z, (LP.of2 t30 (OL.lv d_handed__0_ mg0) (OL.lv d_handed__1_ (mgS mg0))), ?_⟩
    refine run_mono3 hw (fun t31 hw v H Ho e z d32 => ?_)
    replace d_bag_ := OH.mo d_bag_ e
    replace t30 := TupAt.mo t30 e
    replace d_handed__0_ := OL.mo d_handed__0_ e
    replace d_handed__1_ := OL.mo d_handed__1_ e
    replace t17 := TupAt.mo t17 e
    replace d_record__0_ := OL.mo d_record__0_ e
    replace d_record__1_ := OL.mo d_record__1_ e
    replace d_script_ := LVg.mo d_script_ e
    have es34 := es29.trans e
    refine l_d (K := K) (Ho := Ho) hw d32 (fun order_ v_order_ d_order_ hw => ?_)
    refine l_asg (fun v => [_, _, _, _, _, _, _, some v, _]) (fun _ => rfl) ?_
    refine y_call ?_
    refine y_cons ?_
    refine y_var rfl ?_
    refine y_nil ?_
    refine ⟨(g_handed__0_ ++ (g_handed__1_ ++ (g_record__0_ ++ (g_record__1_ ++ (g_bag_ ++ amb))))), _, _, _, rfl, z, (LP.of2 t30 (OL.lv d_handed__0_ mg0) (OL.lv d_handed__1_ (mgS mg0))), ?_⟩
    refine run_mono3 hw (fun t35 hw v H Ho e z d36 => ?_)
    replace d_bag_ := OH.mo d_bag_ e
    replace t30 := TupAt.mo t30 e
    replace d_handed__0_ := OL.mo d_handed__0_ e
    replace d_handed__1_ := OL.mo d_handed__1_ e
    replace d_order_ := D.mo d_order_ e
    replace t17 := TupAt.mo t17 e
    replace d_record__0_ := OL.mo d_record__0_ e
    replace d_record__1_ := OL.mo d_record__1_ e
    replace d_script_ := LVg.mo d_script_ e
    have es38 := es34.trans e
    refine l_d (K := K) (Ho := Ho) hw d36 (fun found_ v_found_ d_found_ hw => ?_)
    refine y_ifS ?_
    refine y_test ?_
    refine y_op ?_
    refine y_var rfl ?_
    refine y_var rfl ?_
    refine y_neD (TupAt.rd t30 (OL.lv d_handed__0_ mg0) (OL.lv d_handed__1_ (mgS mg0)) z) (TupAt.rd t17 (OL.lv d_record__0_ (mgS (mgS mg0))) (OL.lv d_record__1_ (mgS (mgS (mgS mg0)))) z) hw.1 ?_
    replace hw := (run_gd hw).2
    refine ⟨_, rfl, ?_⟩
    refine y_cases hw (fun hb hw => ?_) (fun hb hw => ?_)
    · refine y_ret ?_
      refine y_c ?_
      replace z : Zs amb _ _ := z.go [g_handed__0_, g_handed__1_, g_record__0_, g_record__1_, g_bag_] amb []
      exact (run_ret hw) _ _ _  z (Dq.bl _)
    · refine y_nxS ?_
      refine y_ifS ?_
      refine y_test ?_
      refine y_op ?_
      refine y_var rfl ?_
      refine y_c ?_
      refine ⟨rfl, ?_⟩
      rw [dec_non d_found_ hw.1]
      replace hw := (run_gd hw).2
      refine ⟨_, rfl, ?_⟩
      refine y_cases hw (fun hb hw => ?_) (fun hb hw => ?_)
      · refine y_ret ?_
        refine y_andV ?_
        refine y_op ?_
        refine y_var rfl ?_
        refine y_c ?_
        refine ⟨rfl, ?_⟩
        rw [dec_non d_order_ hw.1, not_isNone]
        replace hw := (run_gd hw).2
        refine ⟨_, rfl, ?_⟩
        refine w_andVJ hw (fun (s : Bool) (v : V) (H2 : Hp) => ∃ (Ho2 : Hp), Same Ho Ho2 ∧ Zs (g_handed__0_ ++ (g_handed__1_ ++ (g_record__0_ ++ (g_record__1_ ++ (g_bag_ ++ amb))))) H2 Ho2 ∧ v = V.bl s) (fun hb hw => ?_) (fun hb hw => ?_) ?_
        · refine y_andV ?_
          refine y_call ?_
          refine y_cons ?_
          refine y_var rfl ?_
          refine y_cons ?_
          refine y_var rfl ?_
          refine y_get d_order_ hw (fun t39 d40 hw => ?_)
          refine y_nil ?_
          refine ⟨(g_handed__0_ ++ (g_handed__1_ ++ (g_record__0_ ++ (g_record__1_ ++ (g_bag_ ++ amb))))), _, _, _, _, _, rfl, z, (LP.of2 t17 (OL.lv d_record__0_ (mgS (mgS mg0))) (OL.lv d_record__1_ (mgS (mgS (mgS mg0))))), d40, ?_⟩
          refine run_mono3 hw (fun t41 hw v H Ho e z d42 => ?_)
          replace d_bag_ := OH.mo d_bag_ e
          replace t30 := TupAt.mo t30 e
          replace d_handed__0_ := OL.mo d_handed__0_ e
          replace d_handed__1_ := OL.mo d_handed__1_ e
          replace d_order_ := D.mo d_order_ e
          replace t17 := TupAt.mo t17 e
          replace d_record__0_ := OL.mo d_record__0_ e
          replace d_record__1_ := OL.mo d_record__1_ e
          replace d_script_ := LVg.mo d_script_ e
          have es44 := (Same.refl _).trans e
          first | obtain rfl := d_bool d42 | cases d_bool d42
          refine ⟨_, rfl, ?_⟩
          refine w_andVJ hw (fun (s : Bool) (v : V) (H2 : Hp) => ∃ (Ho2 : Hp), Same Ho Ho2 ∧ Zs (g_handed__0_ ++ (g_handed__1_ ++ (g_record__0_ ++ (g_record__1_ ++ (g_bag_ ++ amb))))) H2 Ho2 ∧ v = V.bl s) (fun hb hw => ?_) (fun hb hw => ?_) ?_
          · refine y_op ?_
            refine y_call ?_
            refine y_cons ?_
            refine y_op ?_
            refine y_var rfl ?_
            refine y_c ?_
            refine p_ix1 t17 z ?_
            refine y_nil ?_
            refine ⟨(g_handed__0_ ++ (g_handed__1_ ++ (g_record__0_ ++ (g_record__1_ ++ (g_bag_ ++ amb))))), _, _, _, rfl, z, (OL.lv d_record__1_ (mgS (mgS (mgS mg0)))), ?_⟩
            refine run_mono3 hw (fun t45 hw v H Ho e z d46 => ?_)
            replace d_bag_ := OH.mo d_bag_ e
            replace t30 := TupAt.mo t30 e
            replace d_handed__0_ := OL.mo d_handed__0_ e
            replace d_handed__1_ := OL.mo d_handed__1_ e
            replace d_order_ := D.mo d_order_ e
            replace t17 := TupAt.mo t17 e
            replace d_record__0_ := OL.mo d_record__0_ e
            replace d_record__1_ := OL.mo d_record__1_ e
            replace d_script_ := LVg.mo d_script_ e
            have es48 := (Same.refl _).trans e
            first | obtain rfl := d_int d46 | cases d_int d46
            refine y_c ?_
            refine y_eqi ?_
            exact (run_ret hw) _ _ ⟨_, es48, z, rfl⟩
          · exact (run_ret hw) _ _ ⟨_, (Same.refl _), z, rfl⟩
          rintro t49 v H ⟨Ho, e, z, rfl⟩ hw
          replace d_bag_ := OH.mo d_bag_ e
          replace t30 := TupAt.mo t30 e
          replace d_handed__0_ := OL.mo d_handed__0_ e
          replace d_handed__1_ := OL.mo d_handed__1_ e
          replace d_order_ := D.mo d_order_ e
          replace t17 := TupAt.mo t17 e
          replace d_record__0_ := OL.mo d_record__0_ e
          replace d_record__1_ := OL.mo d_record__1_ e
          replace d_script_ := LVg.mo d_script_ e
          have es52 := es44.trans e
          exact (run_ret hw) _ _ ⟨_, es52, z, rfl⟩
        · exact (run_ret hw) _ _ ⟨_, (Same.refl _), z, rfl⟩
        rintro t53 v H ⟨Ho, e, z, rfl⟩ hw
        replace d_bag_ := OH.mo d_bag_ e
        replace t30 := TupAt.mo t30 e
        replace d_handed__0_ := OL.mo d_handed__0_ e
        replace d_handed__1_ := OL.mo d_handed__1_ e
        replace d_order_ := D.mo d_order_ e
        replace t17 := TupAt.mo t17 e
        replace d_record__0_ := OL.mo d_record__0_ e
        replace d_record__1_ := OL.mo d_record__1_ e
        replace d_script_ := LVg.mo d_script_ e
        have es56 := es38.trans e
        replace z : Zs amb _ _ := z.go [g_handed__0_, g_handed__1_, g_record__0_, g_record__1_, g_bag_] amb []
        exact (run_ret hw) _ _ _  z (Dq.bl _)
      · refine y_nxS ?_
        refine y_ifS ?_
        refine y_or ?_
        refine y_test ?_
        refine y_op ?_
        refine y_var rfl ?_
        refine y_c ?_
        refine ⟨rfl, ?_⟩
        rw [dec_non d_order_ hw.1, not_isNone]
        replace hw := (run_gd hw).2
        refine ⟨_, rfl, ?_⟩
        refine w_orJ hw (fun (s : Bool) (v : Bool) (H2 : Hp) => ∃ (Ho2 : Hp), Same Ho Ho2 ∧ Zs (g_handed__0_ ++ (g_handed__1_ ++ (g_record__0_ ++ (g_record__1_ ++ (g_bag_ ++ amb))))) H2 Ho2 ∧ v = s) (fun hb hw => ?_) (fun hb hw => ?_) ?_
        · exact (run_ret hw) _ _ ⟨_, (Same.refl _), z, rfl⟩
        · refine y_or ?_
          refine y_not ?_
          refine y_tB ?_
          refine y_call ?_
          refine y_cons ?_
          refine y_var rfl ?_
          refine y_cons ?_
          refine y_var rfl ?_
          refine y_get d_found_ hw (fun t57 d58 hw => ?_)
          refine y_nil ?_
          refine ⟨(g_handed__0_ ++ (g_handed__1_ ++ (g_record__0_ ++ (g_record__1_ ++ (g_bag_ ++ amb))))), _, _, _, _, _, rfl, z, (LP.of2 t17 (OL.lv d_record__0_ (mgS (mgS mg0))) (OL.lv d_record__1_ (mgS (mgS (mgS mg0))))), d58, ?_⟩
          refine run_mono3 hw (fun t59 hw v H Ho e z d60 => ?_)
          replace d_bag_ := OH.mo d_bag_ e
          replace d_found_ := D.mo d_found_ e
          replace t30 := TupAt.mo t30 e
          replace d_handed__0_ := OL.mo d_handed__0_ e
          replace d_handed__1_ := OL.mo d_handed__1_ e
          replace t17 := TupAt.mo t17 e
          replace d_record__0_ := OL.mo d_record__0_ e
          replace d_record__1_ := OL.mo d_record__1_ e
          replace d_script_ := LVg.mo d_script_ e
          have es62 := (Same.refl _).trans e
          first | obtain rfl := d_bool d60 | cases d_bool d60
          refine ⟨_, rfl, ?_⟩
          refine w_orJ hw (fun (s : Bool) (v : Bool) (H2 : Hp) => ∃ (Ho2 : Hp), Same Ho Ho2 ∧ Zs (g_handed__0_ ++ (g_handed__1_ ++ (g_record__0_ ++ (g_record__1_ ++ (g_bag_ ++ amb))))) H2 Ho2 ∧ v = s) (fun hb hw => ?_) (fun hb hw => ?_) ?_
          · exact (run_ret hw) _ _ ⟨_, (Same.refl _), z, rfl⟩
          · refine y_test ?_
            refine y_op ?_
            refine y_cb ?_
            refine y_cons ?_
            refine y_var rfl ?_
            refine y_nil ?_
            refine y_get d_found_ hw (fun t63 d64 hw => ?_)
            refine y_len (LV.of d64) z ?_
            refine y_call ?_
            refine y_cons ?_
            refine y_op ?_
            refine y_var rfl ?_
            refine y_c ?_
            refine p_ix1 t17 z ?_
            refine y_nil ?_
            refine ⟨(g_handed__0_ ++ (g_handed__1_ ++ (g_record__0_ ++ (g_record__1_ ++ (g_bag_ ++ amb))))), _, _, _, rfl, z, (OL.lv d_record__1_ (mgS (mgS (mgS mg0)))), ?_⟩
            refine run_mono3 hw (fun t65 hw v H Ho e z d66 => ?_)
            replace d_bag_ := OH.mo d_bag_ e
            replace d_found_ := D.mo d_found_ e
            replace t30 := TupAt.mo t30 e
            replace d_handed__0_ := OL.mo d_handed__0_ e
            replace d_handed__1_ := OL.mo d_handed__1_ e
            replace t17 := TupAt.mo t17 e
            replace d_record__0_ := OL.mo d_record__0_ e
            replace d_record__1_ := OL.mo d_record__1_ e
            replace d_script_ := LVg.mo d_script_ e
            have es68 := (Same.refl _).trans e
            first | obtain rfl := d_int d66 | cases d_int d66
            refine y_nei ?_
            refine ⟨_, rfl, ?_⟩
            exact (run_ret hw) _ _ ⟨_, es68, z, rfl⟩
          rintro t69 v H ⟨Ho, e, z, rfl⟩ hw
          replace d_bag_ := OH.mo d_bag_ e
          replace d_found_ := D.mo d_found_ e
          replace t30 := TupAt.mo t30 e
          replace d_handed__0_ := OL.mo d_handed__0_ e
          replace d_handed__1_ := OL.mo d_handed__1_ e
          replace t17 := TupAt.mo t17 e
          replace d_record__0_ := OL.mo d_record__0_ e
          replace d_record__1_ := OL.mo d_record__1_ e
          replace d_script_ := LVg.mo d_script_ e
          have es72 := es62.trans e
          exact (run_ret hw) _ _ ⟨_, es72, z, rfl⟩
        rintro t73 v H ⟨Ho, e, z, rfl⟩ hw
        replace d_bag_ := OH.mo d_bag_ e
        replace d_found_ := D.mo d_found_ e
        replace t30 := TupAt.mo t30 e
        replace d_handed__0_ := OL.mo d_handed__0_ e
        replace d_handed__1_ := OL.mo d_handed__1_ e
        replace t17 := TupAt.mo t17 e
        replace d_record__0_ := OL.mo d_record__0_ e
        replace d_record__1_ := OL.mo d_record__1_ e
        replace d_script_ := LVg.mo d_script_ e
        have es76 := es38.trans e
        refine y_cases hw (fun hb hw => ?_) (fun hb hw => ?_)
        · refine y_ret ?_
          refine y_c ?_
          replace z : Zs amb _ _ := z.go [g_handed__0_, g_handed__1_, g_record__0_, g_record__1_, g_bag_] amb []
          exact (run_ret hw) _ _ _  z (Dq.bl _)
        · refine y_nxS ?_
          refine y_ifS ?_
          refine y_or ?_
          refine y_test ?_
          refine y_op ?_
          refine y_call ?_
          refine y_cons ?_
          refine y_var rfl ?_
          refine y_cons ?_
          refine y_cb ?_
          refine y_cons ?_
          refine y_var rfl ?_
          refine y_get d_found_ hw (fun t77 d78 hw => ?_)
          refine y_nil ?_
          refine y_list (LV.of d78) z (fun H p79 ws80 z d81 => ?_)
          replace z : Zs ([(p79, HO.lst ws80)] ++ (g_handed__0_ ++ (g_handed__1_ ++ (g_record__0_ ++ (g_record__1_ ++ (g_bag_ ++ amb)))))) H Ho := z
          have o82 := OL.mk (p := p79) d81
          refine y_nil ?_
          refine ⟨([(p79, HO.lst ws80)] ++ (g_handed__0_ ++ (g_handed__1_ ++ (g_record__0_ ++ (g_record__1_ ++ (g_bag_ ++ amb)))))), _, _, _, _, _, rfl, z, (LP.of2 t30 (OL.lv d_handed__0_ (mgS mg0)) (OL.lv d_handed__1_ (mgS (mgS mg0)))), (OL.lv o82 mg0), ?_⟩
          refine run_mono3 hw (fun t83 hw v H Ho e z d84 => ?_)
          replace d_bag_ := OH.mo d_bag_ e
          replace d_found_ := D.mo d_found_ e
          replace t30 := TupAt.mo t30 e
          replace d_handed__0_ := OL.mo d_handed__0_ e
          replace d_handed__1_ := OL.mo d_handed__1_ e
          replace t17 := TupAt.mo t17 e
          replace d_record__0_ := OL.mo d_record__0_ e
          replace d_record__1_ := OL.mo d_record__1_ e
          replace d_script_ := LVg.mo d_script_ e
          have es86 := es76.trans e
          first | obtain rfl := d_bool d84 | cases d_bool d84
          refine y_c ?_
          refine y_notB ?_
          refine ⟨_, rfl, ?_⟩
          refine w_orJ hw (fun (s : Bool) (v : Bool) (H2 : Hp) => ∃ (Ho2 : Hp), Same Ho Ho2 ∧ Zs ([(p79, HO.lst ws80)] ++ (g_handed__0_ ++ (g_handed__1_ ++ (g_record__0_ ++ (g_record__1_ ++ (g_bag_ ++ amb)))))) H2 Ho2 ∧ v = s) (fun hb hw => ?_) (fun hb hw => ?_) ?_
          · exact (run_ret hw) _ _ ⟨_, (Same.refl _), z, rfl⟩
          · refine y_test ?_
            refine y_op ?_
            refine y_call ?_
            refine y_cons ?_
            refine y_var rfl ?_
            refine y_cons ?_
            refine y_sl ?_
            refine y_var rfl ?_
            refine y_get d_found_ hw (fun t87 d88 hw => ?_)
            refine y_part ?_
            refine y_c ?_
            refine ⟨_, rfl, ?_⟩
            refine y_noPart ?_
            refine y_slL (LV.of d88) z (fun H p89 ws90 z d91 => ?_)
            replace z : Zs ([(p89, HO.lst ws90)] ++ ([(p79, HO.lst ws80)] ++ (g_handed__0_ ++ (g_handed__1_ ++ (g_record__0_ ++ (g_record__1_ ++ (g_bag_ ++ amb))))))) H Ho := z
            have o92 := OL.mk (p := p89) d91
            refine y_nil ?_
            refine ⟨([(p89, HO.lst ws90)] ++ ([(p79, HO.lst ws80)] ++ (g_handed__0_ ++ (g_handed__1_ ++ (g_record__0_ ++ (g_record__1_ ++ (g_bag_ ++ amb))))))), _, _, _, _, _, rfl, z, (LP.of2 t30 (OL.lv d_handed__0_ (mgS (mgS mg0))) (OL.lv d_handed__1_ (mgS (mgS (mgS mg0))))), (OL.lv o92 mg0), ?_⟩
            refine run_mono3 hw (fun t93 hw v H Ho e z d94 => ?_)
            replace d_bag_ := OH.mo d_bag_ e
            replace d_found_ := D.mo d_found_ e
            replace t30 := TupAt.mo t30 e
            replace d_handed__0_ := OL.mo d_handed__0_ e
            replace d_handed__1_ := OL.mo d_handed__1_ e
            replace t17 := TupAt.mo t17 e
            replace d_record__0_ := OL.mo d_record__0_ e
            replace d_record__1_ := OL.mo d_record__1_ e
            replace d_script_ := LVg.mo d_script_ e
            have es96 := (Same.refl _).trans e
            first | obtain rfl := d_bool d94 | cases d_bool d94
            refine y_c ?_
            refine y_notB ?_
            refine ⟨_, rfl, ?_⟩
            replace z : Zs ([(p79, HO.lst ws80)] ++ (g_handed__0_ ++ (g_handed__1_ ++ (g_record__0_ ++ (g_record__1_ ++ (g_bag_ ++ amb)))))) _ _ := z.go [[(p89, HO.lst ws90)], [(p79, HO.lst ws80)], g_handed__0_, g_handed__1_, g_record__0_, g_record__1_, g_bag_] amb [1, 2, 3, 4, 5, 6]
            exact (run_ret hw) _ _ ⟨_, es96, z, rfl⟩
          rintro t97 v H ⟨Ho, e, z, rfl⟩ hw
          replace d_bag_ := OH.mo d_bag_ e
          replace d_found_ := D.mo d_found_ e
          replace t30 := TupAt.mo t30 e
          replace d_handed__0_ := OL.mo d_handed__0_ e
          replace d_handed__1_ := OL.mo d_handed__1_ e
          replace t17 := TupAt.mo t17 e
          replace d_record__0_ := OL.mo d_record__0_ e
          replace d_record__1_ := OL.mo d_record__1_ e
          replace d_script_ := LVg.mo d_script_ e
          have es100 := es86.trans e
          refine y_cases hw (fun hb hw => ?_) (fun hb hw => ?_)
          · replace z : Zs (g_handed__0_ ++ (g_handed__1_ ++ (g_record__0_ ++ (g_record__1_ ++ (g_bag_ ++ amb))))) _ _ := z.go [[(p79, HO.lst ws80)], g_handed__0_, g_handed__1_, g_record__0_, g_record__1_, g_bag_] amb [1, 2, 3, 4, 5]
            refine y_ret ?_
            refine y_c ?_
            replace z : Zs amb _ _ := z.go [g_handed__0_, g_handed__1_, g_record__0_, g_record__1_, g_bag_] amb []
            exact (run_ret hw) _ _ _  z (Dq.bl _)
          · refine y_nxS ?_
            replace z : Zs (g_handed__0_ ++ (g_handed__1_ ++ (g_record__0_ ++ (g_record__1_ ++ (g_bag_ ++ amb))))) _ _ := z.go [[(p79, HO.lst ws80)], g_handed__0_, g_handed__1_, g_record__0_, g_record__1_, g_bag_] amb [1, 2, 3, 4, 5]
            refine l_asg (fun v => [_, _, _, _, _, _, _, _, some v]) (fun _ => rfl) ?_
            refine y_cb ?_
            refine y_cons ?_
            refine y_var rfl ?_
            refine y_get d_found_ hw (fun t101 d102 hw => ?_)
            refine y_nil ?_
            refine y_list (LV.of d102) z (fun H p103 ws104 z d105 => ?_)
            replace z : Zs ([(p103, HO.lst ws104)] ++ (g_handed__0_ ++ (g_handed__1_ ++ (g_record__0_ ++ (g_record__1_ ++ (g_bag_ ++ amb)))))) H Ho := z
            have o106 := OL.mk (p := p103) d105
            refine l_o hw z o106 (fun held_ v_held_ g_held_ z d_held_ hw => ?_)
            refine y_drop ?_
            refine y_bm0 ?_
            refine y_var rfl ?_
            refine y_get d_found_ hw (fun t107 d108 hw => ?_)
            refine g_tyL (LV.of d108) z ?_
            refine y_thaw d108 z (fun g_found_ Ho th z d109 => ?_)
            replace t17 := TupAt.thin th t17
            replace d_record__0_ := OL.thin th d_record__0_
            replace d_record__1_ := OL.thin th d_record__1_
            replace t30 := TupAt.thin th t30
            replace d_handed__0_ := OL.thin th d_handed__0_
            replace d_handed__1_ := OL.thin th d_handed__1_
            replace d_held_ := OL.thin th d_held_
            replace z : Zs (g_found_ ++ (g_held_ ++ (g_handed__0_ ++ (g_handed__1_ ++ (g_record__0_ ++ (g_record__1_ ++ amb)))))) _ _ := z.go [g_found_, g_held_, g_handed__0_, g_handed__1_, g_record__0_, g_record__1_, g_bag_] amb [0, 1, 2, 3, 4, 5]
            refine h_nmG (P := fun x => OL K Ho v_found_ x g_found_) hw d109 (fun found_ d_found_ hw => ?_)
            refine g_clear z d_found_ (fun g_found_ H z d_found_ => ?_)
            refine h_nmL hw d_found_ (fun found_ d_found_ hw => ?_)
            refine y_ret ?_
            refine y_op ?_
            refine y_call ?_
            refine y_cons ?_
            refine y_var rfl ?_
            refine y_nil ?_
            refine ⟨(g_found_ ++ (g_held_ ++ (g_handed__0_ ++ (g_handed__1_ ++ (g_record__0_ ++ (g_record__1_ ++ amb)))))), _, _, _, rfl, z, (LP.of2 t30 (OL.lv d_handed__0_ (mgS (mgS mg0))) (OL.lv d_handed__1_ (mgS (mgS (mgS mg0))))), ?_⟩
            refine run_mono3 hw (fun t110 hw v H Ho e z d111 => ?_)
            replace d_found_ := OL.mo d_found_ e
            replace t30 := TupAt.mo t30 e
            replace d_handed__0_ := OL.mo d_handed__0_ e
            replace d_handed__1_ := OL.mo d_handed__1_ e
            replace d_held_ := OL.mo d_held_ e
            replace t17 := TupAt.mo t17 e
            replace d_record__0_ := OL.mo d_record__0_ e
            replace d_record__1_ := OL.mo d_record__1_ e
            have es113 := (Same.refl _).trans e
            refine y_var rfl ?_
            refine y_eqD (D.mo d111 z.le) (LV.dp (OL.lv d_held_ (mgS mg0)) z) hw.1 ?_
            replace hw := (run_gd hw).2
            replace z : Zs amb _ _ := z.go [g_found_, g_held_, g_handed__0_, g_handed__1_, g_record__0_, g_record__1_] amb []
            exact (run_ret hw) _ _ _  z (Dq.bl _)
end
def spLaw (K : PySem.W.Frag) : Sp := fun vs H Q _ => ∃ (a : Addr) (ns : List Int), vs = [.ref a] ∧ SqL K H a (ns.map V.int) ∧ ns.length ≤ 63 ∧ ∀ H', Q (.bl true) H'
theorem all_mk {l : PySem.W.OpenLaw} {w : World} {K : PySem.W.Frag} {h : Heap} {mg : Str → Option Value} {fa : Addr} (X : K.In h) (G : h.Ns mainGlobals mg) (hfa : mg "law" = some (.ref fa))
    {f1 : Addr} {od1 an1 : Option Addr} {sl1 : Array (Option Value)} {oc1 kV1 dc1 pm1 cd1 ct1 : Value}
    (a1 : PySem.W.nsIn K mainGlobals "is_touch" = some (some (.ref f1)))
    (l1 : K.lookup f1 = some ⟨oc1, od1, .func (PySem.W.fnOf "is_touch" "is_touch" (defArgs s_is_touch) (defBody s_is_touch) (defScope s_is_touch) .none kV1 dc1 pm1 an1 cd1 ct1), sl1⟩)
    (c1 : PySem.W.codeIn K cd1 "is_touch" = true) (k1 : PySem.W.keepIn K (.ref f1) = true)
    {f2 : Addr} {od2 an2 : Option Addr} {sl2 : Array (Option Value)} {oc2 kV2 dc2 pm2 cd2 ct2 : Value}
    (a2 : PySem.W.nsIn K mainGlobals "need_record" = some (some (.ref f2)))
    (l2 : K.lookup f2 = some ⟨oc2, od2, .func (PySem.W.fnOf "need_record" "need_record" (defArgs s_need_record) (defBody s_need_record) (defScope s_need_record) .none kV2 dc2 pm2 an2 cd2 ct2), sl2⟩)
    (c2 : PySem.W.codeIn K cd2 "need_record" = true) (k2 : PySem.W.keepIn K (.ref f2) = true)
    {f3 : Addr} {od3 an3 : Option Addr} {sl3 : Array (Option Value)} {oc3 kV3 dc3 pm3 cd3 ct3 : Value}
    (a3 : PySem.W.nsIn K mainGlobals "firsts_of" = some (some (.ref f3)))
    (l3 : K.lookup f3 = some ⟨oc3, od3, .func (PySem.W.fnOf "firsts_of" "firsts_of" (defArgs s_firsts_of) (defBody s_firsts_of) (defScope s_firsts_of) .none kV3 dc3 pm3 an3 cd3 ct3), sl3⟩)
    (c3 : PySem.W.codeIn K cd3 "firsts_of" = true) (k3 : PySem.W.keepIn K (.ref f3) = true)
    {f4 : Addr} {od4 an4 : Option Addr} {sl4 : Array (Option Value)} {oc4 kV4 dc4 pm4 cd4 ct4 : Value}
    (a4 : PySem.W.nsIn K mainGlobals "waits_for" = some (some (.ref f4)))
    (l4 : K.lookup f4 = some ⟨oc4, od4, .func (PySem.W.fnOf "waits_for" "waits_for" (defArgs s_waits_for) (defBody s_waits_for) (defScope s_waits_for) .none kV4 dc4 pm4 an4 cd4 ct4), sl4⟩)
    (c4 : PySem.W.codeIn K cd4 "waits_for" = true) (k4 : PySem.W.keepIn K (.ref f4) = true)
    {f5 : Addr} {od5 an5 : Option Addr} {sl5 : Array (Option Value)} {oc5 kV5 dc5 pm5 cd5 ct5 : Value}
    (a5 : PySem.W.nsIn K mainGlobals "ready" = some (some (.ref f5)))
    (l5 : K.lookup f5 = some ⟨oc5, od5, .func (PySem.W.fnOf "ready" "ready" (defArgs s_ready) (defBody s_ready) (defScope s_ready) .none kV5 dc5 pm5 an5 cd5 ct5), sl5⟩)
    (c5 : PySem.W.codeIn K cd5 "ready" = true) (k5 : PySem.W.keepIn K (.ref f5) = true)
    {f6 : Addr} {od6 an6 : Option Addr} {sl6 : Array (Option Value)} {oc6 kV6 dc6 pm6 cd6 ct6 : Value}
    (a6 : PySem.W.nsIn K mainGlobals "first_order" = some (some (.ref f6)))
    (l6 : K.lookup f6 = some ⟨oc6, od6, .func (PySem.W.fnOf "first_order" "first_order" (defArgs s_first_order) (defBody s_first_order) (defScope s_first_order) .none kV6 dc6 pm6 an6 cd6 ct6), sl6⟩)
    (c6 : PySem.W.codeIn K cd6 "first_order" = true) (k6 : PySem.W.keepIn K (.ref f6) = true)
    {f7 : Addr} {od7 an7 : Option Addr} {sl7 : Array (Option Value)} {oc7 kV7 dc7 pm7 cd7 ct7 : Value}
    (a7 : PySem.W.nsIn K mainGlobals "led_on" = some (some (.ref f7)))
    (l7 : K.lookup f7 = some ⟨oc7, od7, .func (PySem.W.fnOf "led_on" "led_on" (defArgs s_led_on) (defBody s_led_on) (defScope s_led_on) .none kV7 dc7 pm7 an7 cd7 ct7), sl7⟩)
    (c7 : PySem.W.codeIn K cd7 "led_on" = true) (k7 : PySem.W.keepIn K (.ref f7) = true)
    {f8 : Addr} {od8 an8 : Option Addr} {sl8 : Array (Option Value)} {oc8 kV8 dc8 pm8 cd8 ct8 : Value}
    (a8 : PySem.W.nsIn K mainGlobals "ring_from" = some (some (.ref f8)))
    (l8 : K.lookup f8 = some ⟨oc8, od8, .func (PySem.W.fnOf "ring_from" "ring_from" (defArgs s_ring_from) (defBody s_ring_from) (defScope s_ring_from) .none kV8 dc8 pm8 an8 cd8 ct8), sl8⟩)
    (c8 : PySem.W.codeIn K cd8 "ring_from" = true) (k8 : PySem.W.keepIn K (.ref f8) = true)
    {f9 : Addr} {od9 an9 : Option Addr} {sl9 : Array (Option Value)} {oc9 kV9 dc9 pm9 cd9 ct9 : Value}
    (a9 : PySem.W.nsIn K mainGlobals "ring" = some (some (.ref f9)))
    (l9 : K.lookup f9 = some ⟨oc9, od9, .func (PySem.W.fnOf "ring" "ring" (defArgs s_ring) (defBody s_ring) (defScope s_ring) .none kV9 dc9 pm9 an9 cd9 ct9), sl9⟩)
    (c9 : PySem.W.codeIn K cd9 "ring" = true) (k9 : PySem.W.keepIn K (.ref f9) = true)
    {f10 : Addr} {od10 an10 : Option Addr} {sl10 : Array (Option Value)} {oc10 kV10 dc10 pm10 cd10 ct10 : Value}
    (a10 : PySem.W.nsIn K mainGlobals "ring_shows" = some (some (.ref f10)))
    (l10 : K.lookup f10 = some ⟨oc10, od10, .func (PySem.W.fnOf "ring_shows" "ring_shows" (defArgs s_ring_shows) (defBody s_ring_shows) (defScope s_ring_shows) .none kV10 dc10 pm10 an10 cd10 ct10), sl10⟩)
    (c10 : PySem.W.codeIn K cd10 "ring_shows" = true) (k10 : PySem.W.keepIn K (.ref f10) = true)
    {f11 : Addr} {od11 an11 : Option Addr} {sl11 : Array (Option Value)} {oc11 kV11 dc11 pm11 cd11 ct11 : Value}
    (a11 : PySem.W.nsIn K mainGlobals "_law_bag" = some (some (.ref f11)))
    (l11 : K.lookup f11 = some ⟨oc11, od11, .func (PySem.W.fnOf "_law_bag" "_law_bag" (defArgs s_law_bag) (defBody s_law_bag) (defScope s_law_bag) .none kV11 dc11 pm11 an11 cd11 ct11), sl11⟩)
    (c11 : PySem.W.codeIn K cd11 "_law_bag" = true) (k11 : PySem.W.keepIn K (.ref f11) = true)
    {f12 : Addr} {od12 an12 : Option Addr} {sl12 : Array (Option Value)} {oc12 kV12 dc12 pm12 cd12 ct12 : Value}
    (a12 : PySem.W.nsIn K mainGlobals "_law_stir" = some (some (.ref f12)))
    (l12 : K.lookup f12 = some ⟨oc12, od12, .func (PySem.W.fnOf "_law_stir" "_law_stir" (defArgs s_law_stir) (defBody s_law_stir) (defScope s_law_stir) .none kV12 dc12 pm12 an12 cd12 ct12), sl12⟩)
    (c12 : PySem.W.codeIn K cd12 "_law_stir" = true) (k12 : PySem.W.keepIn K (.ref f12) = true)
    {f13 : Addr} {od13 an13 : Option Addr} {sl13 : Array (Option Value)} {oc13 kV13 dc13 pm13 cd13 ct13 : Value}
    (a13 : PySem.W.nsIn K mainGlobals "_law_draw" = some (some (.ref f13)))
    (l13 : K.lookup f13 = some ⟨oc13, od13, .func (PySem.W.fnOf "_law_draw" "_law_draw" (defArgs s_law_draw) (defBody s_law_draw) (defScope s_law_draw) .none kV13 dc13 pm13 an13 cd13 ct13), sl13⟩)
    (c13 : PySem.W.codeIn K cd13 "_law_draw" = true) (k13 : PySem.W.keepIn K (.ref f13) = true)
    {f14 : Addr} {od14 an14 : Option Addr} {sl14 : Array (Option Value)} {oc14 kV14 dc14 pm14 cd14 ct14 : Value}
    (a14 : PySem.W.nsIn K mainGlobals "_law_counts" = some (some (.ref f14)))
    (l14 : K.lookup f14 = some ⟨oc14, od14, .func (PySem.W.fnOf "_law_counts" "_law_counts" (defArgs s_law_counts) (defBody s_law_counts) (defScope s_law_counts) .none kV14 dc14 pm14 an14 cd14 ct14), sl14⟩)
    (c14 : PySem.W.codeIn K cd14 "_law_counts" = true) (k14 : PySem.W.keepIn K (.ref f14) = true)
    {f15 : Addr} {od15 an15 : Option Addr} {sl15 : Array (Option Value)} {oc15 kV15 dc15 pm15 cd15 ct15 : Value}
    (a15 : PySem.W.nsIn K mainGlobals "_law_order" = some (some (.ref f15)))
    (l15 : K.lookup f15 = some ⟨oc15, od15, .func (PySem.W.fnOf "_law_order" "_law_order" (defArgs s_law_order) (defBody s_law_order) (defScope s_law_order) .none kV15 dc15 pm15 an15 cd15 ct15), sl15⟩)
    (c15 : PySem.W.codeIn K cd15 "_law_order" = true) (k15 : PySem.W.keepIn K (.ref f15) = true)
    {f16 : Addr} {od16 an16 : Option Addr} {sl16 : Array (Option Value)} {oc16 kV16 dc16 pm16 cd16 ct16 : Value}
    (a16 : PySem.W.nsIn K mainGlobals "_law_spots" = some (some (.ref f16)))
    (l16 : K.lookup f16 = some ⟨oc16, od16, .func (PySem.W.fnOf "_law_spots" "_law_spots" (defArgs s_law_spots) (defBody s_law_spots) (defScope s_law_spots) .none kV16 dc16 pm16 an16 cd16 ct16), sl16⟩)
    (c16 : PySem.W.codeIn K cd16 "_law_spots" = true) (k16 : PySem.W.keepIn K (.ref f16) = true)
    {f17 : Addr} {od17 an17 : Option Addr} {sl17 : Array (Option Value)} {oc17 kV17 dc17 pm17 cd17 ct17 : Value}
    (a17 : PySem.W.nsIn K mainGlobals "_law_note" = some (some (.ref f17)))
    (l17 : K.lookup f17 = some ⟨oc17, od17, .func (PySem.W.fnOf "_law_note" "_law_note" (defArgs s_law_note) (defBody s_law_note) (defScope s_law_note) .none kV17 dc17 pm17 an17 cd17 ct17), sl17⟩)
    (c17 : PySem.W.codeIn K cd17 "_law_note" = true) (k17 : PySem.W.keepIn K (.ref f17) = true)
    {f18 : Addr} {od18 an18 : Option Addr} {sl18 : Array (Option Value)} {oc18 kV18 dc18 pm18 cd18 ct18 : Value}
    (a18 : PySem.W.nsIn K mainGlobals "_law_record" = some (some (.ref f18)))
    (l18 : K.lookup f18 = some ⟨oc18, od18, .func (PySem.W.fnOf "_law_record" "_law_record" (defArgs s_law_record) (defBody s_law_record) (defScope s_law_record) .none kV18 dc18 pm18 an18 cd18 ct18), sl18⟩)
    (c18 : PySem.W.codeIn K cd18 "_law_record" = true) (k18 : PySem.W.keepIn K (.ref f18) = true)
    {f19 : Addr} {od19 an19 : Option Addr} {sl19 : Array (Option Value)} {oc19 kV19 dc19 pm19 cd19 ct19 : Value}
    (a19 : PySem.W.nsIn K mainGlobals "_law_copy" = some (some (.ref f19)))
    (l19 : K.lookup f19 = some ⟨oc19, od19, .func (PySem.W.fnOf "_law_copy" "_law_copy" (defArgs s_law_copy) (defBody s_law_copy) (defScope s_law_copy) .none kV19 dc19 pm19 an19 cd19 ct19), sl19⟩)
    (c19 : PySem.W.codeIn K cd19 "_law_copy" = true) (k19 : PySem.W.keepIn K (.ref f19) = true)
    {f20 : Addr} {od20 an20 : Option Addr} {sl20 : Array (Option Value)} {oc20 kV20 dc20 pm20 cd20 ct20 : Value}
    (a20 : PySem.W.nsIn K mainGlobals "_law_ring_in" = some (some (.ref f20)))
    (l20 : K.lookup f20 = some ⟨oc20, od20, .func (PySem.W.fnOf "_law_ring_in" "_law_ring_in" (defArgs s_law_ring_in) (defBody s_law_ring_in) (defScope s_law_ring_in) .none kV20 dc20 pm20 an20 cd20 ct20), sl20⟩)
    (c20 : PySem.W.codeIn K cd20 "_law_ring_in" = true) (k20 : PySem.W.keepIn K (.ref f20) = true)
    {f21 : Addr} {od21 an21 : Option Addr} {sl21 : Array (Option Value)} {oc21 kV21 dc21 pm21 cd21 ct21 : Value}
    (a21 : PySem.W.nsIn K mainGlobals "_law_leads" = some (some (.ref f21)))
    (l21 : K.lookup f21 = some ⟨oc21, od21, .func (PySem.W.fnOf "_law_leads" "_law_leads" (defArgs s_law_leads) (defBody s_law_leads) (defScope s_law_leads) .none kV21 dc21 pm21 an21 cd21 ct21), sl21⟩)
    (c21 : PySem.W.codeIn K cd21 "_law_leads" = true) (k21 : PySem.W.keepIn K (.ref f21) = true)
    {f22 : Addr} {od22 an22 : Option Addr} {sl22 : Array (Option Value)} {oc22 kV22 dc22 pm22 cd22 ct22 : Value}
    (a22 : PySem.W.nsIn K mainGlobals "_law_least" = some (some (.ref f22)))
    (l22 : K.lookup f22 = some ⟨oc22, od22, .func (PySem.W.fnOf "_law_least" "_law_least" (defArgs s_law_least) (defBody s_law_least) (defScope s_law_least) .none kV22 dc22 pm22 an22 cd22 ct22), sl22⟩)
    (c22 : PySem.W.codeIn K cd22 "_law_least" = true) (k22 : PySem.W.keepIn K (.ref f22) = true)
    {f23 : Addr} {od23 an23 : Option Addr} {sl23 : Array (Option Value)} {oc23 kV23 dc23 pm23 cd23 ct23 : Value}
    (a23 : PySem.W.nsIn K mainGlobals "_law_fewest" = some (some (.ref f23)))
    (l23 : K.lookup f23 = some ⟨oc23, od23, .func (PySem.W.fnOf "_law_fewest" "_law_fewest" (defArgs s_law_fewest) (defBody s_law_fewest) (defScope s_law_fewest) .none kV23 dc23 pm23 an23 cd23 ct23), sl23⟩)
    (c23 : PySem.W.codeIn K cd23 "_law_fewest" = true) (k23 : PySem.W.keepIn K (.ref f23) = true)
    {f24 : Addr} {od24 an24 : Option Addr} {sl24 : Array (Option Value)} {oc24 kV24 dc24 pm24 cd24 ct24 : Value}
    (a24 : PySem.W.nsIn K mainGlobals "_law_goes_round" = some (some (.ref f24)))
    (l24 : K.lookup f24 = some ⟨oc24, od24, .func (PySem.W.fnOf "_law_goes_round" "_law_goes_round" (defArgs s_law_goes_round) (defBody s_law_goes_round) (defScope s_law_goes_round) .none kV24 dc24 pm24 an24 cd24 ct24), sl24⟩)
    (c24 : PySem.W.codeIn K cd24 "_law_goes_round" = true) (k24 : PySem.W.keepIn K (.ref f24) = true)
    {f25 : Addr} {od25 an25 : Option Addr} {sl25 : Array (Option Value)} {oc25 kV25 dc25 pm25 cd25 ct25 : Value}
    (a25 : PySem.W.nsIn K mainGlobals "_law_keeps" = some (some (.ref f25)))
    (l25 : K.lookup f25 = some ⟨oc25, od25, .func (PySem.W.fnOf "_law_keeps" "_law_keeps" (defArgs s_law_keeps) (defBody s_law_keeps) (defScope s_law_keeps) .none kV25 dc25 pm25 an25 cd25 ct25), sl25⟩)
    (c25 : PySem.W.codeIn K cd25 "_law_keeps" = true) (k25 : PySem.W.keepIn K (.ref f25) = true)
    {f26 : Addr} {od26 an26 : Option Addr} {sl26 : Array (Option Value)} {oc26 kV26 dc26 pm26 cd26 ct26 : Value}
    (a26 : PySem.W.nsIn K mainGlobals "law" = some (some (.ref f26)))
    (l26 : K.lookup f26 = some ⟨oc26, od26, .func (PySem.W.fnOf "law" "law" (defArgs s_law) (defBody s_law) (defScope s_law) .none kV26 dc26 pm26 an26 cd26 ct26), sl26⟩)
    (c26 : PySem.W.codeIn K cd26 "law" = true) (k26 : PySem.W.keepIn K (.ref f26) = true)
    (z_len : PySem.W.nsIn K mainGlobals "len" = some none)
    (z_range : PySem.W.nsIn K mainGlobals "range" = some none)
    (z_sum : PySem.W.nsIn K mainGlobals "sum" = some none)
    (z_dict : PySem.W.nsIn K mainGlobals "dict" = some none)
    (z_min : PySem.W.nsIn K mainGlobals "min" = some none)
    (z_list : PySem.W.nsIn K mainGlobals "list" = some none)
    (z_max : PySem.W.nsIn K mainGlobals "max" = some none)
    (z_sorted : PySem.W.nsIn K mainGlobals "sorted" = some none)
    (z_set : PySem.W.nsIn K mainGlobals "set" = some none)
    (z_isinstance : PySem.W.nsIn K mainGlobals "isinstance" = some none)
    (z_tuple : PySem.W.nsIn K mainGlobals "tuple" = some none)
    (z_bool : PySem.W.nsIn K mainGlobals "bool" = some none)
    (z_int : PySem.W.nsIn K mainGlobals "int" = some none)
    {tk_MOST_HANDS : Tok} (g_MOST_HANDS : PySem.W.nsIn K mainGlobals "MOST_HANDS" = some (some (.int 8 tk_MOST_HANDS))) :
    ∃ fd : FuncData, (∀ (s : Shared) (v : Value), BindsTo s fd ⟨[v], []⟩ [("script", v)]) ∧ ∀ base : Heap, K.In base → base.Ns mainGlobals mg → FnOk l.prog w K mg base CX0 5 fa fd ["script"] (spLaw K) := by
  have e := hfa.symm.trans (PySem.W.mg_of X G a26)
  cases e
  refine ⟨PySem.W.fnOf "law" "law" (defArgs s_law) (defBody s_law) (defScope s_law) .none kV26 dc26 pm26 an26 cd26 ct26, fun s v => .of_eq rfl, fun base _ _ => ?_⟩
  have F1 := fun_mk (st := s_is_touch) l1 c1 k1
  have b1 := F1.binds (ps := ["counts", "hand", "k"]) fun _ _ _ _ _ _ us hl => match us, hl with | [_, _, _], _ => rfl
  have F2 := fun_mk (st := s_need_record) l2 c2 k2
  have b2 := F2.binds (ps := ["record"]) fun _ _ _ _ _ _ us hl => match us, hl with | [_], _ => rfl
  have F3 := fun_mk (st := s_firsts_of) l3 c3 k3
  have b3 := F3.binds (ps := ["record"]) fun _ _ _ _ _ _ us hl => match us, hl with | [_], _ => rfl
  have F4 := fun_mk (st := s_waits_for) l4 c4 k4
  have b4 := F4.binds (ps := ["firsts", "now", "hand"]) fun _ _ _ _ _ _ us hl => match us, hl with | [_, _, _], _ => rfl
  have F5 := fun_mk (st := s_ready) l5 c5 k5
  have b5 := F5.binds (ps := ["counts", "firsts", "now"]) fun _ _ _ _ _ _ us hl => match us, hl with | [_, _, _], _ => rfl
  have F6 := fun_mk (st := s_first_order) l6 c6 k6
  have b6 := F6.binds (ps := ["record"]) fun _ _ _ _ _ _ us hl => match us, hl with | [_], _ => rfl
  have F7 := fun_mk (st := s_led_on) l7 c7 k7
  have b7 := F7.binds (ps := ["some", "ways"]) fun _ _ _ _ _ _ us hl => match us, hl with | [_, _], _ => rfl
  have F8 := fun_mk (st := s_ring_from) l8 c8 k8
  have b8 := F8.binds (ps := ["some", "note"]) fun _ _ _ _ _ _ us hl => match us, hl with | [_, _], _ => rfl
  have F9 := fun_mk (st := s_ring) l9 c9 k9
  have b9 := F9.binds (ps := ["record"]) fun _ _ _ _ _ _ us hl => match us, hl with | [_], _ => rfl
  have F10 := fun_mk (st := s_ring_shows) l10 c10 k10
  have b10 := F10.binds (ps := ["record", "some"]) fun _ _ _ _ _ _ us hl => match us, hl with | [_, _], _ => rfl
  have F11 := fun_mk (st := s_law_bag) l11 c11 k11
  have b11 := F11.binds (ps := ["script"]) fun _ _ _ _ _ _ us hl => match us, hl with | [_], _ => rfl
  have F12 := fun_mk (st := s_law_stir) l12 c12 k12
  have b12 := F12.binds (ps := ["number", "place"]) fun _ _ _ _ _ _ us hl => match us, hl with | [_, _], _ => rfl
  have F13 := fun_mk (st := s_law_draw) l13 c13 k13
  have b13 := F13.binds (ps := ["bag", "many"]) fun _ _ _ _ _ _ us hl => match us, hl with | [_, _], _ => rfl
  have F14 := fun_mk (st := s_law_counts) l14 c14 k14
  have b14 := F14.binds (ps := ["bag", "great"]) fun _ _ _ _ _ _ us hl => match us, hl with | [_, _], _ => rfl
  have F15 := fun_mk (st := s_law_order) l15 c15 k15
  have b15 := F15.binds (ps := ["bag", "counts"]) fun _ _ _ _ _ _ us hl => match us, hl with | [_, _], _ => rfl
  have F16 := fun_mk (st := s_law_spots) l16 c16 k16
  have b16 := F16.binds (ps := ["order"]) fun _ _ _ _ _ _ us hl => match us, hl with | [_], _ => rfl
  have F17 := fun_mk (st := s_law_note) l17 c17 k17
  have b17 := F17.binds (ps := ["bag", "counts"]) fun _ _ _ _ _ _ us hl => match us, hl with | [_, _], _ => rfl
  have F18 := fun_mk (st := s_law_record) l18 c18 k18
  have b18 := F18.binds (ps := ["bag", "great"]) fun _ _ _ _ _ _ us hl => match us, hl with | [_, _], _ => rfl
  have F19 := fun_mk (st := s_law_copy) l19 c19 k19
  have b19 := F19.binds (ps := ["record"]) fun _ _ _ _ _ _ us hl => match us, hl with | [_], _ => rfl
  have F20 := fun_mk (st := s_law_ring_in) l20 c20 k20
  have b20 := F20.binds (ps := ["bag", "record", "near"]) fun _ _ _ _ _ _ us hl => match us, hl with | [_, _, _], _ => rfl
  have F21 := fun_mk (st := s_law_leads) l21 c21 k21
  have b21 := F21.binds (ps := ["tie", "later"]) fun _ _ _ _ _ _ us hl => match us, hl with | [_, _], _ => rfl
  have F22 := fun_mk (st := s_law_least) l22 c22 k22
  have b22 := F22.binds (ps := ["ties", "first"]) fun _ _ _ _ _ _ us hl => match us, hl with | [_, _], _ => rfl
  have F23 := fun_mk (st := s_law_fewest) l23 c23 k23
  have b23 := F23.binds (ps := ["ties"]) fun _ _ _ _ _ _ us hl => match us, hl with | [_], _ => rfl
  have F24 := fun_mk (st := s_law_goes_round) l24 c24 k24
  have b24 := F24.binds (ps := ["record", "found"]) fun _ _ _ _ _ _ us hl => match us, hl with | [_, _], _ => rfl
  have F25 := fun_mk (st := s_law_keeps) l25 c25 k25
  have b25 := F25.binds (ps := ["record", "order"]) fun _ _ _ _ _ _ us hl => match us, hl with | [_, _], _ => rfl
  have F26 := fun_mk (st := s_law) l26 c26 k26
  have b26 := F26.binds (ps := ["script"]) fun _ _ _ _ _ _ us hl => match us, hl with | [_], _ => rfl
  have o1 := ok_is_touch (cl := (fun _ => 0)) (P := l.prog) (w := w) (mg := mg) (base := base) F1 (PySem.W.mg_none_of X G z_len)
  have c_is_touch : Cal l.prog w K mg base CX0 "is_touch" ["counts", "hand", "k"] 1 (sp_is_touch K (fun _ => 0)) f1 _ := ⟨o1, PySem.W.mg_of X G a1, k1, b1⟩
  have o2 := ok_need_record (cl := (fun _ => 0)) (P := l.prog) (w := w) (mg := mg) (base := base) F2 c_is_touch
  have c_need_record : Cal l.prog w K mg base CX0 "need_record" ["record"] 2 (sp_need_record K (fun _ => 0)) f2 _ := ⟨o2, PySem.W.mg_of X G a2, k2, b2⟩
  have o3 := ok_firsts_of (cl := (fun _ => 0)) (P := l.prog) (w := w) (mg := mg) (base := base) F3 
  have c_firsts_of : Cal l.prog w K mg base CX0 "firsts_of" ["record"] 1 (sp_firsts_of K (fun _ => 0)) f3 _ := ⟨o3, PySem.W.mg_of X G a3, k3, b3⟩
  have o4 := ok_waits_for (cl := (fun _ => 0)) (P := l.prog) (w := w) (mg := mg) (base := base) F4 
  have c_waits_for : Cal l.prog w K mg base CX0 "waits_for" ["firsts", "now", "hand"] 1 (sp_waits_for K (fun _ => 0)) f4 _ := ⟨o4, PySem.W.mg_of X G a4, k4, b4⟩
  have o5 := ok_ready (cl := (fun _ => 0)) (P := l.prog) (w := w) (mg := mg) (base := base) F5 c_waits_for (PySem.W.mg_none_of X G z_len) (PySem.W.mg_none_of X G z_range)
  have c_ready : Cal l.prog w K mg base CX0 "ready" ["counts", "firsts", "now"] 2 (sp_ready K (fun _ => 0)) f5 _ := ⟨o5, PySem.W.mg_of X G a5, k5, b5⟩
  have o6 := ok_first_order (cl := (fun _ => 0)) (P := l.prog) (w := w) (mg := mg) (base := base) F6 c_need_record c_firsts_of c_ready (PySem.W.mg_none_of X G z_len) (PySem.W.mg_none_of X G z_sum)
  have c_first_order : Cal l.prog w K mg base CX0 "first_order" ["record"] 3 (sp_first_order K (fun _ => 0)) f6 _ := ⟨o6, PySem.W.mg_of X G a6, k6, b6⟩
  have o7 := ok_led_on (cl := (fun _ => 0)) (P := l.prog) (w := w) (mg := mg) (base := base) F7 (PySem.W.mg_none_of X G z_dict)
  have c_led_on : Cal l.prog w K mg base CX0 "led_on" ["some", "ways"] 1 (sp_led_on K (fun _ => 0)) f7 _ := ⟨o7, PySem.W.mg_of X G a7, k7, b7⟩
  have o8 := ok_ring_from (cl := (fun _ => 0)) (P := l.prog) (w := w) (mg := mg) (base := base) F8 c_led_on (PySem.W.mg_none_of X G z_range) (PySem.W.mg_of X G g_MOST_HANDS)
  have c_ring_from : Cal l.prog w K mg base CX0 "ring_from" ["some", "note"] 2 (sp_ring_from K (fun _ => 0)) f8 _ := ⟨o8, PySem.W.mg_of X G a8, k8, b8⟩
  have o9 := ok_ring (cl := (fun _ => 0)) (P := l.prog) (w := w) (mg := mg) (base := base) F9 c_need_record c_ring_from (PySem.W.mg_none_of X G z_min) (PySem.W.mg_none_of X G z_len)
  have c_ring : Cal l.prog w K mg base CX0 "ring" ["record"] 3 (sp_ring K (fun _ => 0)) f9 _ := ⟨o9, PySem.W.mg_of X G a9, k9, b9⟩
  have o10 := ok_ring_shows (cl := (fun _ => 0)) (P := l.prog) (w := w) (mg := mg) (base := base) F10 c_need_record (PySem.W.mg_none_of X G z_len) (PySem.W.mg_none_of X G z_range)
  have c_ring_shows : Cal l.prog w K mg base CX0 "ring_shows" ["record", "some"] 3 (sp_ring_shows K (fun _ => 0)) f10 _ := ⟨o10, PySem.W.mg_of X G a10, k10, b10⟩
  have o11 := ok_law_bag (cl := (fun _ => 0)) (P := l.prog) (w := w) (mg := mg) (base := base) F11 (PySem.W.mg_none_of X G z_list)
  have c_law_bag : Cal l.prog w K mg base CX0 "_law_bag" ["script"] 1 (sp_law_bag K (fun _ => 0)) f11 _ := ⟨o11, PySem.W.mg_of X G a11, k11, b11⟩
  have o12 := ok_law_stir (cl := (fun _ => 0)) (P := l.prog) (w := w) (mg := mg) (base := base) F12 
  have c_law_stir : Cal l.prog w K mg base CX0 "_law_stir" ["number", "place"] 1 (sp_law_stir K (fun _ => 0)) f12 _ := ⟨o12, PySem.W.mg_of X G a12, k12, b12⟩
  have o13 := ok_law_draw (cl := (fun _ => 0)) (P := l.prog) (w := w) (mg := mg) (base := base) F13 c_law_stir (PySem.W.mg_none_of X G z_len)
  have c_law_draw : Cal l.prog w K mg base CX0 "_law_draw" ["bag", "many"] 2 (sp_law_draw K (fun _ => 0)) f13 _ := ⟨o13, PySem.W.mg_of X G a13, k13, b13⟩
  have o14 := ok_law_counts (cl := (fun _ => 0)) (P := l.prog) (w := w) (mg := mg) (base := base) F14 c_law_draw (PySem.W.mg_none_of X G z_range) (PySem.W.mg_none_of X G z_max)
  have c_law_counts : Cal l.prog w K mg base CX0 "_law_counts" ["bag", "great"] 3 (sp_law_counts K (fun _ => 0)) f14 _ := ⟨o14, PySem.W.mg_of X G a14, k14, b14⟩
  have o15 := ok_law_order (cl := (fun _ => 0)) (P := l.prog) (w := w) (mg := mg) (base := base) F15 c_law_draw (PySem.W.mg_none_of X G z_list) (PySem.W.mg_none_of X G z_sum) (PySem.W.mg_none_of X G z_range) (PySem.W.mg_none_of X G z_len)
  have c_law_order : Cal l.prog w K mg base CX0 "_law_order" ["bag", "counts"] 3 (sp_law_order K (fun _ => 0)) f15 _ := ⟨o15, PySem.W.mg_of X G a15, k15, b15⟩
  have o16 := ok_law_spots (cl := (fun _ => 0)) (P := l.prog) (w := w) (mg := mg) (base := base) F16 (PySem.W.mg_none_of X G z_len) (PySem.W.mg_none_of X G z_range)
  have c_law_spots : Cal l.prog w K mg base CX0 "_law_spots" ["order"] 1 (sp_law_spots K (fun _ => 0)) f16 _ := ⟨o16, PySem.W.mg_of X G a16, k16, b16⟩
  have o17 := ok_law_note (cl := (fun _ => 0)) (P := l.prog) (w := w) (mg := mg) (base := base) F17 c_law_draw (PySem.W.mg_none_of X G z_len) (PySem.W.mg_none_of X G z_range)
  have c_law_note : Cal l.prog w K mg base CX0 "_law_note" ["bag", "counts"] 3 (sp_law_note K (fun _ => 0)) f17 _ := ⟨o17, PySem.W.mg_of X G a17, k17, b17⟩
  have o18 := ok_law_record (cl := (fun _ => 0)) (P := l.prog) (w := w) (mg := mg) (base := base) F18 c_law_draw c_law_counts c_law_spots c_law_order c_law_note (PySem.W.mg_none_of X G z_range) (PySem.W.mg_none_of X G z_len)
  have c_law_record : Cal l.prog w K mg base CX0 "_law_record" ["bag", "great"] 4 (sp_law_record K (fun _ => 0)) f18 _ := ⟨o18, PySem.W.mg_of X G a18, k18, b18⟩
  have o19 := ok_law_copy (cl := (fun _ => 0)) (P := l.prog) (w := w) (mg := mg) (base := base) F19 (PySem.W.mg_none_of X G z_list)
  have c_law_copy : Cal l.prog w K mg base CX0 "_law_copy" ["record"] 1 (sp_law_copy K (fun _ => 0)) f19 _ := ⟨o19, PySem.W.mg_of X G a19, k19, b19⟩
  have o20 := ok_law_ring_in (cl := (fun _ => 0)) (P := l.prog) (w := w) (mg := mg) (base := base) F20 c_law_draw (PySem.W.mg_none_of X G z_len) (PySem.W.mg_none_of X G z_range)
  have c_law_ring_in : Cal l.prog w K mg base CX0 "_law_ring_in" ["bag", "record", "near"] 3 (sp_law_ring_in K (fun _ => 0)) f20 _ := ⟨o20, PySem.W.mg_of X G a20, k20, b20⟩
  have o21 := ok_law_leads (cl := (fun _ => 0)) (P := l.prog) (w := w) (mg := mg) (base := base) F21 
  have c_law_leads : Cal l.prog w K mg base CX0 "_law_leads" ["tie", "later"] 1 (sp_law_leads K (fun _ => 0)) f21 _ := ⟨o21, PySem.W.mg_of X G a21, k21, b21⟩
  have o22 := ok_law_least (cl := (fun _ => 0)) (P := l.prog) (w := w) (mg := mg) (base := base) F22 c_law_leads (PySem.W.mg_none_of X G z_len)
  have c_law_least : Cal l.prog w K mg base CX0 "_law_least" ["ties", "first"] 2 (sp_law_least K (fun _ => 0)) f22 _ := ⟨o22, PySem.W.mg_of X G a22, k22, b22⟩
  have o23 := ok_law_fewest (cl := (fun _ => 0)) (P := l.prog) (w := w) (mg := mg) (base := base) F23 c_law_least (PySem.W.mg_none_of X G z_sorted) (PySem.W.mg_none_of X G z_set) (PySem.W.mg_none_of X G z_min)
  have c_law_fewest : Cal l.prog w K mg base CX0 "_law_fewest" ["ties"] 3 (sp_law_fewest K (fun _ => 0)) f23 _ := ⟨o23, PySem.W.mg_of X G a23, k23, b23⟩
  have o24 := ok_law_goes_round (cl := (fun _ => 0)) (P := l.prog) (w := w) (mg := mg) (base := base) F24 c_law_leads (PySem.W.mg_none_of X G z_isinstance) (PySem.W.mg_none_of X G z_list) (PySem.W.mg_none_of X G z_len) (PySem.W.mg_none_of X G z_range) (PySem.W.mg_none_of X G z_tuple) (PySem.W.mg_none_of X G z_bool)
  have c_law_goes_round : Cal l.prog w K mg base CX0 "_law_goes_round" ["record", "found"] 2 (sp_law_goes_round K (fun _ => 0)) f24 _ := ⟨o24, PySem.W.mg_of X G a24, k24, b24⟩
  have o25 := ok_law_keeps (cl := (fun _ => 0)) (P := l.prog) (w := w) (mg := mg) (base := base) F25 c_law_spots (PySem.W.mg_none_of X G z_isinstance) (PySem.W.mg_none_of X G z_list) (PySem.W.mg_none_of X G z_len) (PySem.W.mg_none_of X G z_sum) (PySem.W.mg_none_of X G z_range)
  have c_law_keeps : Cal l.prog w K mg base CX0 "_law_keeps" ["record", "order"] 2 (sp_law_keeps K (fun _ => 0)) f25 _ := ⟨o25, PySem.W.mg_of X G a25, k25, b25⟩
  have o26 := ok_law (cl := (fun _ => 0)) (P := l.prog) (w := w) (mg := mg) (base := base) F26 c_law_bag c_law_draw c_law_record c_law_ring_in c_law_copy c_first_order c_ring c_law_keeps c_law_fewest c_law_goes_round c_ring_shows (PySem.W.mg_none_of X G z_int) (PySem.W.mg_none_of X G z_len) (PySem.W.mg_none_of X G z_list)
  refine FnOk.imp o26 fun vs H Q E hq => ?_
  obtain ⟨a, ns, rfl, hS, hl, q⟩ := hq
  refine ⟨[], H, .ref a, ns, rfl, ⟨Same.refl _, (fun r hr => nomatch hr), List.nodup_nil, (fun r hr => nomatch hr)⟩, ⟨a, _, rfl, ints_dl, .inl hS⟩, run_mono' (law_true hl) fun r hr v H' Ho' z d => ?_⟩
  subst hr
  rw [d_bool d]
  exact q H'
end M
open PySem PySem.W PyProof.Rows
set_option maxHeartbeats 0 in
theorem PySem.Challenge.cw_fewnotes_k40_whole_order_or_ring_holds : PySem.Challenge.rw_fewnotes_k40_whole_order_or_ring.Holds := by
  w_on; o_law; k_head; (case hw => w_witness2)
  k_fill
  refine L2.walk_of (l := PySem.Challenge.rw_fewnotes_k40_whole_order_or_ring) (n := 63) (k := 5) (x := "script") (CX := fun _ => L2.CX0) (sp := fun w => M.spLaw _) rfl (by decide) rfl ⟨rfl, by decide, by decide⟩ (fun w h Y => PySem.W.kIn_of Y) ?F (fun _ _ a ns hl _ hS => ⟨a, ns, rfl, hS, hl, fun _ => rfl⟩) (fun _ _ _ _ _ h => h)
  case F =>
    intro w mg fa h KX G hmg
    refine' M.all_mk KX G hmg ?a1 ?l1 ?c1 ?k1 ?a2 ?l2 ?c2 ?k2 ?a3 ?l3 ?c3 ?k3 ?a4 ?l4 ?c4 ?k4 ?a5 ?l5 ?c5 ?k5 ?a6 ?l6 ?c6 ?k6 ?a7 ?l7 ?c7 ?k7 ?a8 ?l8 ?c8 ?k8 ?a9 ?l9 ?c9 ?k9 ?a10 ?l10 ?c10 ?k10 ?a11 ?l11 ?c11 ?k11 ?a12 ?l12 ?c12 ?k12 ?a13 ?l13 ?c13 ?k13 ?a14 ?l14 ?c14 ?k14 ?a15 ?l15 ?c15 ?k15 ?a16 ?l16 ?c16 ?k16 ?a17 ?l17 ?c17 ?k17 ?a18 ?l18 ?c18 ?k18 ?a19 ?l19 ?c19 ?k19 ?a20 ?l20 ?c20 ?k20 ?a21 ?l21 ?c21 ?k21 ?a22 ?l22 ?c22 ?k22 ?a23 ?l23 ?c23 ?k23 ?a24 ?l24 ?c24 ?k24 ?a25 ?l25 ?c25 ?k25 ?a26 ?l26 ?c26 ?k26 ?z_len ?z_range ?z_sum ?z_dict ?z_min ?z_list ?z_max ?z_sorted ?z_set ?z_isinstance ?z_tuple ?z_bool ?z_int ?g_MOST_HANDS
    (case a1 => k_is); (case l1 => k_is); (case c1 => k_is); (case k1 => k_is); (case a2 => k_is); (case l2 => k_is); (case c2 => k_is); (case k2 => k_is); (case a3 => k_is); (case l3 => k_is); (case c3 => k_is); (case k3 => k_is); (case a4 => k_is); (case l4 => k_is); (case c4 => k_is); (case k4 => k_is); (case a5 => k_is); (case l5 => k_is); (case c5 => k_is); (case k5 => k_is); (case a6 => k_is); (case l6 => k_is); (case c6 => k_is); (case k6 => k_is); (case a7 => k_is); (case l7 => k_is); (case c7 => k_is); (case k7 => k_is); (case a8 => k_is); (case l8 => k_is); (case c8 => k_is); (case k8 => k_is); (case a9 => k_is); (case l9 => k_is); (case c9 => k_is); (case k9 => k_is); (case a10 => k_is); (case l10 => k_is); (case c10 => k_is); (case k10 => k_is); (case a11 => k_is); (case l11 => k_is); (case c11 => k_is); (case k11 => k_is); (case a12 => k_is); (case l12 => k_is); (case c12 => k_is); (case k12 => k_is); (case a13 => k_is); (case l13 => k_is); (case c13 => k_is); (case k13 => k_is); (case a14 => k_is); (case l14 => k_is); (case c14 => k_is); (case k14 => k_is); (case a15 => k_is); (case l15 => k_is); (case c15 => k_is); (case k15 => k_is); (case a16 => k_is); (case l16 => k_is); (case c16 => k_is); (case k16 => k_is); (case a17 => k_is); (case l17 => k_is); (case c17 => k_is); (case k17 => k_is); (case a18 => k_is); (case l18 => k_is); (case c18 => k_is); (case k18 => k_is); (case a19 => k_is); (case l19 => k_is); (case c19 => k_is); (case k19 => k_is); (case a20 => k_is); (case l20 => k_is); (case c20 => k_is); (case k20 => k_is); (case a21 => k_is); (case l21 => k_is); (case c21 => k_is); (case k21 => k_is); (case a22 => k_is); (case l22 => k_is); (case c22 => k_is); (case k22 => k_is); (case a23 => k_is); (case l23 => k_is); (case c23 => k_is); (case k23 => k_is); (case a24 => k_is); (case l24 => k_is); (case c24 => k_is); (case k24 => k_is); (case a25 => k_is); (case l25 => k_is); (case c25 => k_is); (case k25 => k_is); (case a26 => k_is); (case l26 => k_is); (case c26 => k_is); (case k26 => k_is); (case z_len => k_is); (case z_range => k_is); (case z_sum => k_is); (case z_dict => k_is); (case z_min => k_is); (case z_list => k_is); (case z_max => k_is); (case z_sorted => k_is); (case z_set => k_is); (case z_isinstance => k_is); (case z_tuple => k_is); (case z_bool => k_is); (case z_int => k_is); (case g_MOST_HANDS => k_is)
