import PyProof.Rows.All
import Wide.All
import OpenK.AllK
import Wide.FinOn
import HandS.ForMost
import HandS.TupAny
import HandS.Deep
import HandS.NoneIn
import HandS.Defaults
import HandS.SortInts
import HandS.More
import HandS.Conv
import HandS.IsInst
import HandS.DictComp
import HandS.Style
import KE.GoesMore
import HandS.Zip
import HandS.Head0
import HandS.Head1
import HandS.Head2
import HandS.HeadEnd
import HandS.HeadHook1
import HandS.HeadHook2
import PySem.Challenge.RW_guanaco_k57_whole_heaps_lose_nothing
set_option Elab.async false
set_option linter.all false
set_option maxRecDepth 100000
set_option maxHeartbeats 4000000
set_option autoImplicit false
namespace DL
open PySem L2

/-! ### data: what a value means, tuples all the way down -/
inductive D where
  | non | bl (b : Bool) | int (i : Int) | str (x : Str) | tup (ds : List D) | ref (a : Addr) | lit (ds : List D)
abbrev Rho := List (Option D)
inductive MO where
  | list (ds : List D) | dict (kvs : List (Key × D)) | ins (C : Addr) (fs : List (Str × D))
abbrev Sto := Addr → Option MO
def supd (S : Sto) (a : Addr) (m : MO) : Sto := fun b => if b = a then some m else S b
theorem supd_same {S : Sto} {a : Addr} {m : MO} : supd S a m a = some m := by unfold supd; rw [if_pos rfl]
theorem supd_ne {S : Sto} {a b : Addr} {m : MO} (h : b ≠ a) : supd S a m b = S b := by unfold supd; rw [if_neg h]
theorem supd_supd {S : Sto} {a : Addr} {m n : MO} : supd (supd S a m) a n = supd S a n := by
  funext b; unfold supd; split <;> rfl
theorem supd_comm {S : Sto} {a b : Addr} {m n : MO} (h : a ≠ b) : supd (supd S a m) b n = supd (supd S b n) a m := by
  funext c; unfold supd
  by_cases h1 : c = b
  · subst h1; rw [if_pos rfl, if_neg (Ne.symm h), if_pos rfl]
  · rw [if_neg h1, if_neg h1]
theorem supd_self {S : Sto} {a : Addr} {m : MO} (h : S a = some m) : supd S a m = S := by
  funext b; unfold supd
  by_cases e : b = a
  · subst e; rw [if_pos rfl, h]
  · rw [if_neg e]
def Sub (S S' : Sto) : Prop := ∀ a m, S a = some m → S' a = some m
theorem Sub.refl (S : Sto) : Sub S S := fun _ _ h => h
theorem Sub.trans {S S1 S2 : Sto} (a : Sub S S1) (b : Sub S1 S2) : Sub S S2 := fun c m h => b c m (a c m h)
theorem Sub.new {S : Sto} {a : Addr} {m : MO} (h : S a = none) : Sub S (supd S a m) := fun b n e => by
  rw [supd_ne (fun q => by rw [q, h] at e; cases e)]; exact e
theorem Sub.upd {S S' : Sto} {a : Addr} {m : MO} (h : Sub S S') : Sub (supd S a m) (supd S' a m) := fun b n e => by
  unfold supd at e ⊢
  split
  · rename_i q; rw [if_pos q] at e; exact e
  · rename_i q; rw [if_neg q] at e; exact h _ _ e
theorem sne {S : Sto} {a b : Addr} {m : MO} (h : S a = some m) (h' : S b = none) : a ≠ b := fun e => by rw [e, h'] at h; cases h
theorem Sub.none {S S' : Sto} {a : Addr} (h : Sub S S') (e : S' a = none) : S a = none := by
  cases q : S a with
  | none => rfl
  | some m => rw [h a m q] at e; cases e

structure Ext (H H' : Hp) : Prop where
  t : ∀ a xs, H a = some (.tup xs) → H' a = some (.tup xs)
  z : ∀ a o u, H a = some (.frz o u) → H' a = some (.frz o u)
theorem Ext.refl (H : Hp) : Ext H H := ⟨fun _ _ h => h, fun _ _ _ h => h⟩
theorem Ext.trans {H H1 H2 : Hp} (a : Ext H H1) (b : Ext H1 H2) : Ext H H2 := ⟨fun c m h => b.t c m (a.t c m h), fun c o m h => b.z c o m (a.z c o m h)⟩
theorem Ext.new {H : Hp} {p : Addr} {o : HO} (h : H p = none) : Ext H (upd H p o) :=
  ⟨fun a xs e => by rw [upd_ne (ne_of_none e h)]; exact e, fun a o' u e => by rw [upd_ne (ne_of_none e h)]; exact e⟩
theorem Ext.mut {H : Hp} {p : Addr} {o u : HO} (h : H p = some u) (m : Mut (some u)) : Ext H (upd H p o) :=
  ⟨fun a xs e => by rw [upd_ne (fun q => by rw [q, h] at e; cases e; exact m)]; exact e, fun a o' v e => by rw [upd_ne (fun q => by rw [q, h] at e; cases e; exact m)]; exact e⟩
theorem Ext.sqt {K : PySem.W.Frag} {H H' : Hp} {a : Addr} {xs : List V} (e : Ext H H') (h : SqT K H a xs) : SqT K H' a xs := by
  rcases h with (h | ⟨o, h⟩) | h
  · exact .inl (.inl (e.t _ _ h))
  · exact .inl (.inr ⟨o, e.z _ _ _ h⟩)
  · exact .inr h

/-- a list that is never changed (the script) -/
def SqZ (K : PySem.W.Frag) (H : Hp) (a : Addr) (xs : List V) : Prop := SqL K H a xs ∧ ∀ H', Ext H H' → SqL K H' a xs
theorem SqZ.of {K : PySem.W.Frag} {H : Hp} {a : Addr} {xs : List V} (o : ∀ b, H b = none ∨ ∃ o xs, H b = some (.frz o (.lst xs))) (h : SqL K H a xs) : SqZ K H a xs := by
  refine ⟨h, fun H' e => ?_⟩
  rcases h with (h | ⟨u, h⟩) | h
  · rcases o a with q | ⟨_, _, q⟩
    · rw [q] at h; cases h
    · rw [q] at h; cases h
  · exact .inl (.inr ⟨u, e.z _ _ _ h⟩)
  · exact .inr h
mutual
inductive Den (K : PySem.W.Frag) (H : Hp) : V → D → Prop
  | non : Den K H .non .non
  | bl (b : Bool) : Den K H (.bl b) (.bl b)
  | int (i : Int) : Den K H (.int i) (.int i)
  | str (x : Str) : Den K H (.str x) (.str x)
  | ref (a : Addr) : Den K H (.ref a) (.ref a)
  | tup {a : Addr} {xs : List V} {ds : List D} : SqT K H a xs → DenAll K H xs ds → Den K H (.ref a) (.tup ds)
  | lit {a : Addr} {xs : List V} {ds : List D} : SqZ K H a xs → DenAll K H xs ds → Den K H (.ref a) (.lit ds)
inductive DenAll (K : PySem.W.Frag) (H : Hp) : List V → List D → Prop
  | nil : DenAll K H [] []
  | cons {v : V} {vs : List V} {d : D} {ds : List D} : Den K H v d → DenAll K H vs ds → DenAll K H (v :: vs) (d :: ds)
end
section
variable {K : PySem.W.Frag} {H H' : Hp}
mutual
theorem Den.ext (e : Ext H H') : ∀ (d : D) (v : V), Den K H v d → Den K H' v d
  | .non, _, h => by cases h; exact .non
  | .bl b, _, h => by cases h; exact .bl b
  | .int i, _, h => by cases h; exact .int i
  | .str x, _, h => by cases h; exact .str x
  | .ref a, _, h => by cases h; exact .ref a
  | .tup ds, _, h => by
    cases h with
    | tup h1 h2 => exact .tup (e.sqt h1) (DenAll.ext e ds _ h2)
  | .lit ds, _, h => by
    cases h with
    | lit h1 h2 => exact .lit ⟨h1.2 _ e, fun H2 e2 => h1.2 _ (e.trans e2)⟩ (DenAll.ext e ds _ h2)
theorem DenAll.ext (e : Ext H H') : ∀ (ds : List D) (vs : List V), DenAll K H vs ds → DenAll K H' vs ds
  | [], _, h => by cases h; exact .nil
  | d :: ds, _, h => by
    cases h with
    | cons h1 h2 => exact .cons (Den.ext e d _ h1) (DenAll.ext e ds _ h2)
end
theorem Den.up {v : V} {d : D} (h : Den K H v d) (e : Ext H H') : Den K H' v d := Den.ext e d v h
theorem DenAll.up {v : List V} {d : List D} (h : DenAll K H v d) (e : Ext H H') : DenAll K H' v d := DenAll.ext e d v h
theorem DenAll.len : ∀ {vs : List V} {ds : List D}, DenAll K H vs ds → vs.length = ds.length
  | _, _, .nil => rfl
  | _, _, .cons _ t => by rw [List.length_cons, List.length_cons, DenAll.len t]
theorem DenAll.get : ∀ {vs : List V} {ds : List D} {i : Nat} {d : D}, DenAll K H vs ds → ds[i]? = some d → ∃ v, vs[i]? = some v ∧ Den K H v d
  | _, _, i, _, .nil, e => by simp at e
  | _, _, 0, _, .cons h _, e => by simp at e; subst e; exact ⟨_, rfl, h⟩
  | _, _, i + 1, _, .cons _ t, e => by
    obtain ⟨v, h1, h2⟩ := DenAll.get (i := i) t (by simpa using e)
    exact ⟨v, by simpa using h1, h2⟩
theorem DenAll.get' : ∀ {vs : List V} {ds : List D} {i : Nat} {v : V}, DenAll K H vs ds → vs[i]? = some v → ∃ d, ds[i]? = some d ∧ Den K H v d
  | _, _, i, _, .nil, e => by simp at e
  | _, _, 0, _, .cons h _, e => by simp at e; subst e; exact ⟨_, rfl, h⟩
  | _, _, i + 1, _, .cons _ t, e => by
    obtain ⟨v, h1, h2⟩ := DenAll.get' (i := i) t (by simpa using e)
    exact ⟨v, by simpa using h1, h2⟩
theorem DenAll.append : ∀ {vs us : List V} {ds es : List D}, DenAll K H vs ds → DenAll K H us es → DenAll K H (vs ++ us) (ds ++ es)
  | _, _, _, _, .nil, s => s
  | _, _, _, _, .cons r t, s => .cons r (DenAll.append t s)
theorem DenAll.set {v : V} {d : D} (r : Den K H v d) : ∀ {vs : List V} {ds : List D} (i : Nat), DenAll K H vs ds → DenAll K H (vs.set i v) (ds.set i d)
  | _, _, _, .nil => .nil
  | _, _, 0, .cons _ t => .cons r t
  | _, _, i + 1, .cons q t => .cons q (DenAll.set r i t)
theorem DenAll.take : ∀ {vs : List V} {ds : List D} (n : Nat), DenAll K H vs ds → DenAll K H (vs.take n) (ds.take n)
  | _, _, 0, _ => .nil
  | _, _, _ + 1, .nil => .nil
  | _, _, n + 1, .cons r t => .cons r (DenAll.take n t)
theorem DenAll.drop : ∀ {vs : List V} {ds : List D} (n : Nat), DenAll K H vs ds → DenAll K H (vs.drop n) (ds.drop n)
  | _, _, 0, r => r
  | _, _, _ + 1, .nil => .nil
  | _, _, n + 1, .cons _ t => DenAll.drop n t
theorem DenAll.dropLast {vs : List V} {ds : List D} (h : DenAll K H vs ds) : DenAll K H vs.dropLast ds.dropLast := by
  rw [List.dropLast_eq_take, List.dropLast_eq_take, h.len]; exact h.take _
theorem DenAll.reverse : ∀ {vs : List V} {ds : List D}, DenAll K H vs ds → DenAll K H vs.reverse ds.reverse
  | _, _, .nil => .nil
  | _, _, .cons r t => by rw [List.reverse_cons, List.reverse_cons]; exact (DenAll.reverse t).append (.cons r .nil)
theorem denAll_ints : ∀ (ns : List Int), DenAll K H (ns.map V.int) (ns.map D.int)
  | [] => .nil
  | n :: r => .cons (.int n) (denAll_ints r)
/-- pairs with the same first parts -/
abbrev DenKV {κ : Type} (K : PySem.W.Frag) (H : Hp) : List (κ × V) → List (κ × D) → Prop := Paired fun p q => p.1 = q.1 ∧ Den K H p.2 q.2
theorem DenKV.up {κ : Type} {vs : List (κ × V)} {ds : List (κ × D)} (h : DenKV K H vs ds) (e : Ext H H') : DenKV K H' vs ds := by
  induction h with
  | nil => exact .nil
  | cons r _ ih => exact .cons ⟨r.1, r.2.up e⟩ ih

def Rep (K : PySem.W.Frag) (H : Hp) (a : Addr) : MO → Prop
  | .list ds => ∃ vs, H a = some (.lst vs) ∧ DenAll K H vs ds
  | .dict kvs => ∃ vs, H a = some (.dK vs) ∧ DenKV K H vs kvs
  | .ins C fs => ∃ dx vs, H a = some (.ins C dx vs) ∧ DenKV K H vs fs
theorem Rep.keep {a : Addr} {m : MO} (e : Ext H H') (k : ∀ o, H a = some o → H' a = some o) (h : Rep K H a m) : Rep K H' a m := by
  cases m with
  | list ds => obtain ⟨vs, h1, h2⟩ := h; exact ⟨vs, k _ h1, h2.up e⟩
  | dict ds => obtain ⟨vs, h1, h2⟩ := h; exact ⟨vs, k _ h1, DenKV.up h2 e⟩
  | ins C ds => obtain ⟨dx, vs, h1, h2⟩ := h; exact ⟨dx, vs, k _ h1, DenKV.up h2 e⟩
theorem Rep.some {a : Addr} {m : MO} (h : Rep K H a m) : ∃ o, H a = some o ∧ Mut (some o) := by
  cases m with
  | list ds => obtain ⟨vs, h1, h2⟩ := h; exact ⟨_, h1, trivial⟩
  | dict ds => obtain ⟨vs, h1, h2⟩ := h; exact ⟨_, h1, trivial⟩
  | ins C ds => obtain ⟨dx, vs, h1, h2⟩ := h; exact ⟨_, h1, trivial⟩
def Rel (K : PySem.W.Frag) (H : Hp) (S : Sto) : Prop := ∀ a m, S a = some m → Rep K H a m
theorem Rel.fresh {S : Sto} {p : Addr} (r : Rel K H S) (h : H p = none) : S p = none := by
  cases q : S p with
  | none => rfl
  | some m =>
    obtain ⟨o, e, _⟩ := (r p m q).some
    rw [h] at e; cases e
theorem Rel.sub {S S' : Sto} (r : Rel K H S') (s : Sub S S') : Rel K H S := fun a m h => r a m (s a m h)
/-- one address written (or new) -/
theorem Rel.upd {S : Sto} {p : Addr} {o : HO} {m : MO} (r : Rel K H S) (e : Ext H (L2.upd H p o)) (n : Rep K (L2.upd H p o) p m) : Rel K (L2.upd H p o) (supd S p m) := fun b mb h => by
  by_cases q : b = p
  · subst q
    rw [supd_same] at h; cases h; exact n
  · rw [supd_ne q] at h
    exact (r b mb h).keep e fun u hu => by rw [upd_ne q]; exact hu
/-- a new object that is not told of -/
theorem Rel.new {S : Sto} {p : Addr} {o : HO} (r : Rel K H S) (h : H p = none) : Rel K (L2.upd H p o) S := fun b mb hb =>
  (r b mb hb).keep (Ext.new h) fun u hu => by rw [upd_ne (ne_of_none hu h)]; exact hu
end

/-! ### slots -/
def slot : Rho → Nat → Option D
  | [], _ => none
  | x :: _, 0 => x
  | _ :: r, n + 1 => slot r n
theorem slot_eq : ∀ (ρ : Rho) (i : Nat) (d : D), slot ρ i = some d → ρ[i]? = some (some d)
  | [], _, _, h => by cases h
  | x :: _, 0, _, h => by
    have e : x = some _ := h
    rw [e]; rfl
  | _ :: r, n + 1, d, h => by
    have := slot_eq r n d h
    simpa using this
def put : Rho → Nat → D → Rho
  | [], _, _ => []
  | _ :: r, 0, d => some d :: r
  | x :: r, n + 1, d => x :: put r n d
theorem put_set : ∀ (ρ : Rho) (i : Nat) (d : D), put ρ i d = ρ.set i (some d)
  | [], _, _ => rfl
  | _ :: r, 0, d => rfl
  | x :: r, n + 1, d => by show x :: put r n d = x :: r.set n (some d); rw [put_set]
def clr : Rho → Nat → Rho
  | [], _ => []
  | _ :: r, 0 => none :: r
  | x :: r, n + 1 => x :: clr r n
theorem clr_set : ∀ (ρ : Rho) (i : Nat), clr ρ i = ρ.set i none
  | [], _ => rfl
  | _ :: r, 0 => rfl
  | x :: r, n + 1 => by show x :: clr r n = x :: r.set n none; rw [clr_set]
structure DenO (K : PySem.W.Frag) (H : Hp) (σ : L2.St) (ρ : Rho) : Prop where
  len : σ.length = ρ.length
  get : ∀ (i : Nat) (d : D), ρ[i]? = some (some d) → ∃ v : V, σ[i]? = some (some v) ∧ Den K H v d
section
variable {K : PySem.W.Frag} {H H' : Hp} {σ : L2.St} {ρ : Rho}
theorem DenO.up (h : DenO K H σ ρ) (e : Ext H H') : DenO K H' σ ρ := ⟨h.len, fun i d q => let ⟨v, h1, h2⟩ := h.get i d q; ⟨v, h1, h2.up e⟩⟩
theorem DenO.set {v : V} {d : D} {i : Nat} (h : DenO K H σ ρ) (n : Den K H v d) : DenO K H (σ.set i (some v)) (put ρ i d) := by
  rw [put_set]
  refine ⟨by rw [List.length_set, List.length_set]; exact h.len, fun j e q => ?_⟩
  by_cases hj : i = j
  · subst hj
    by_cases hl : i < ρ.length
    · rw [List.getElem?_set_self hl] at q
      cases q
      exact ⟨v, List.getElem?_set_self (by rw [h.len]; exact hl), n⟩
    · rw [List.getElem?_eq_none (by simpa using hl)] at q; cases q
  · rw [List.getElem?_set_ne hj] at q ⊢
    exact h.get j e q
theorem DenO.clr {i : Nat} (h : DenO K H σ ρ) : DenO K H (σ.set i none) (clr ρ i) := by
  rw [clr_set]
  refine ⟨by rw [List.length_set, List.length_set]; exact h.len, fun j e q => ?_⟩
  by_cases hj : i = j
  · subst hj
    by_cases hl : i < ρ.length
    · rw [List.getElem?_set_self hl] at q
      cases q
    · rw [List.getElem?_eq_none (by simpa using hl)] at q; cases q
  · rw [List.getElem?_set_ne hj] at q ⊢
    exact h.get j e q
end
def wipeD (ρ : Rho) : List Nat → Rho
  | [] => ρ
  | v :: vs => clr (wipeD ρ vs) v
theorem DenO.wipe {K : PySem.W.Frag} {H : Hp} {σ : L2.St} {ρ : Rho} (h : DenO K H σ ρ) : ∀ vs, DenO K H (wipe σ vs) (wipeD ρ vs)
  | [] => h
  | v :: vs => (DenO.wipe h vs).clr

/-! ### readings on data, and what they ask of the layer -/
abbrev DQ := D → Sto → Prop
abbrev DTE := Rho → Sto → DQ → Prop
abbrev DTT := Rho → Sto → (Bool → Sto → Prop) → Prop
abbrev DTA := Rho → Sto → (List D → Sto → Prop) → Prop
structure DEnds where
  nx : Rho → Sto → Prop
  rt : DQ
  bk : Rho → Sto → Prop := fun _ _ => False
  ct : Rho → Sto → Prop := fun _ _ => False
abbrev DTS := DEnds → Rho → Sto → Prop

def lE (K : PySem.W.Frag) (T : DTE) : TE := fun σ H Q => ∃ ρ S Q0, DenO K H σ ρ ∧ Rel K H S ∧ T ρ S Q0 ∧ ∀ d S' v H', Q0 d S' → Den K H' v d → Rel K H' S' → Ext H H' → Q v H'
def lT (K : PySem.W.Frag) (T : DTT) : TT := fun σ H Q => ∃ ρ S Q0, DenO K H σ ρ ∧ Rel K H S ∧ T ρ S Q0 ∧ ∀ b S' H', Q0 b S' → Rel K H' S' → Ext H H' → Q b H'
def lA (K : PySem.W.Frag) (T : DTA) : TA := fun σ H Q => ∃ ρ S Q0, DenO K H σ ρ ∧ Rel K H S ∧ T ρ S Q0 ∧ ∀ ds S' vs H', Q0 ds S' → DenAll K H' vs ds → Rel K H' S' → Ext H H' → Q vs H'
structure Fin (K : PySem.W.Frag) (H : Hp) (D0 : DEnds) (D1 : Ends) : Prop where
  nx : ∀ ρ S σ H', D0.nx ρ S → DenO K H' σ ρ → Rel K H' S → Ext H H' → D1.nx σ H'
  rt : ∀ d S v H', D0.rt d S → Den K H' v d → Rel K H' S → Ext H H' → D1.rt v H'
  bk : ∀ ρ S σ H', D0.bk ρ S → DenO K H' σ ρ → Rel K H' S → Ext H H' → D1.bk σ H'
  ct : ∀ ρ S σ H', D0.ct ρ S → DenO K H' σ ρ → Rel K H' S → Ext H H' → D1.ct σ H'
theorem Fin.up {K : PySem.W.Frag} {H H1 : Hp} {D0 : DEnds} {D1 : Ends} (f : Fin K H D0 D1) (e : Ext H H1) : Fin K H1 D0 D1 :=
  ⟨fun ρ S σ H' q d r x => f.nx ρ S σ H' q d r (e.trans x), fun ρ S σ H' q d r x => f.rt ρ S σ H' q d r (e.trans x), fun ρ S σ H' q d r x => f.bk ρ S σ H' q d r (e.trans x), fun ρ S σ H' q d r x => f.ct ρ S σ H' q d r (e.trans x)⟩
def lS (K : PySem.W.Frag) (T : DTS) : TS := fun D1 σ H => ∃ ρ S D0, DenO K H σ ρ ∧ Rel K H S ∧ T D0 ρ S ∧ Fin K H D0 D1

structure DE (X : Cx) (e : Expr) (T : DTE) : Prop where
  p : PE X e (lE X.K T)
structure DT (X : Cx) (e : Expr) (T : DTT) : Prop where
  p : PT X e (lT X.K T)
structure DW (X : Cx) (e : Expr) (T : DTT) : Prop where
  p : PW X e (lT X.K T)
structure DA (X : Cx) (es : List Expr) (T : DTA) : Prop where
  p : PA X es (lA X.K T)
structure DS (X : Cx) (st : Stmt) (T : DTS) : Prop where
  p : PS X st (lS X.K T)
structure DSs (X : Cx) (st : List Stmt) (T : DTS) : Prop where
  p : PSs X st (lS X.K T)

section
variable {X : Cx}
theorem _root_.L2.PE.weak {e : Expr} {t t' : TE} (h : PE X e t) (w : ∀ σ H Q, t' σ H Q → t σ H Q) : PE X e t' := ⟨fun pins s σ H Q I q => h.run pins s σ H Q I (w σ H Q q)⟩
theorem _root_.L2.PT.weak {e : Expr} {t t' : TT} (h : PT X e t) (w : ∀ σ H Q, t' σ H Q → t σ H Q) : PT X e t' := ⟨fun pins s σ H Q I q => h.run pins s σ H Q I (w σ H Q q)⟩
theorem _root_.L2.PW.weak {e : Expr} {t t' : TT} (h : PW X e t) (w : ∀ σ H Q, t' σ H Q → t σ H Q) : PW X e t' := ⟨fun wh pins s σ H Q I q => h.run wh pins s σ H Q I (w σ H Q q)⟩
theorem _root_.L2.PA.weak {e : List Expr} {t t' : TA} (h : PA X e t) (w : ∀ σ H Q, t' σ H Q → t σ H Q) : PA X e t' := ⟨fun pos pins s σ H Q I q => h.run pos pins s σ H Q I (w σ H Q q)⟩
theorem _root_.L2.PS.weak {e : Stmt} {t t' : TS} (h : PS X e t) (w : ∀ Q σ H, t' Q σ H → t Q σ H) : PS X e t' := ⟨fun pins s σ H Q I q => h.run pins s σ H Q I (w Q σ H q)⟩
theorem _root_.L2.PSs.weak {e : List Stmt} {t t' : TS} (h : PSs X e t) (w : ∀ Q σ H, t' Q σ H → t Q σ H) : PSs X e t' := ⟨fun pins s σ H Q I q => h.run pins s σ H Q I (w Q σ H q)⟩
end

/-! ### names, constants -/
section
variable {X : Cx} {pos : Pos} {a b c e : Expr} {ta tb tc : DTE}
def dVar (i : Nat) : DTE := fun ρ S Q => ∃ d, slot ρ i = some d ∧ Q d S
def dC (d : D) : DTE := fun _ S Q => Q d S
theorem dv (i : Nat) {x : Str} (hN : X.N[i]? = some x := by rfl) (hv : Vis X.env.scope x := by first | exact Or.inl rfl | exact Or.inr (Or.inl rfl) | exact Or.inr (Or.inr rfl)) (hd : (x == ("__debug__" : Str)) = false := by decide)
    (hcd : (x == ("__classdict__" : Str)) = false := by decide) : DE X (.Name x pos) (dVar i) :=
  ⟨(pe_var (i := i) hN hv hd hcd).weak fun σ H Q ⟨ρ, S, Q0, dn, r, ⟨d, h1, h2⟩, k⟩ =>
    let ⟨v, g1, g2⟩ := dn.get i d (slot_eq _ _ _ h1)
    ⟨v, g1, k d S v H h2 g2 r (.refl H)⟩⟩
theorem de_c {d : D} {v : V} (h : PE X e (tC v)) (hd : ∀ H, Den X.K H v d) : DE X e (dC d) :=
  ⟨h.weak fun σ H Q ⟨ρ, S, Q0, dn, r, h2, k⟩ => k d S v H h2 (hd H) r (.refl H)⟩
theorem de_int {i : Int} {j} : DE X (.Constant (.int i) j pos) (dC (.int i)) := de_c pe_int fun _ => .int i
theorem de_bl {i : Bool} {j} : DE X (.Constant (.bool i) j pos) (dC (.bl i)) := de_c pe_bl fun _ => .bl i
theorem de_non {j} : DE X (.Constant .none j pos) (dC .non) := de_c pe_non fun _ => .non
theorem de_str {x : Str} {j} : DE X (.Constant (.str x) j pos) (dC (.str x)) := de_c pe_str fun _ => .str x
/-- a module's constant -/
theorem de_glob {x : Str} {v : V} {d : D} {u : Value} (hg : Gl X x) (hm : X.mg x = some u) (r : RelV v u) (hd : ∀ H, Den X.K H v d) (hdb : (x == ("__debug__" : Str)) = false := by decide) : DE X (.Name x pos) (dC d) :=
  de_c (pe_glob hg hm r hdb) hd

/-! ### operators -/
abbrev DR2 := D → D → Sto → DQ → Prop
def lR2 (K : PySem.W.Frag) (R : DR2) : R2 := fun x y H Q => ∃ d e S Q0, Den K H x d ∧ Den K H y e ∧ Rel K H S ∧ R d e S Q0 ∧ ∀ d S' v H', Q0 d S' → Den K H' v d → Rel K H' S' → Ext H H' → Q v H'
def lR1 (K : PySem.W.Frag) (R : D → Sto → DQ → Prop) : V → Hp → VK → Prop := fun x H Q => ∃ d S Q0, Den K H x d ∧ Rel K H S ∧ R d S Q0 ∧ ∀ d S' v H', Q0 d S' → Den K H' v d → Rel K H' S' → Ext H H' → Q v H'
def lC (K : PySem.W.Frag) (R : List D → Sto → DQ → Prop) : List V → Hp → VK → Prop := fun xs H Q => ∃ d S Q0, DenAll K H xs d ∧ Rel K H S ∧ R d S Q0 ∧ ∀ d S' v H', Q0 d S' → Den K H' v d → Rel K H' S' → Ext H H' → Q v H'
def lM (K : PySem.W.Frag) (R : D → List D → Sto → DQ → Prop) : V → List V → Hp → VK → Prop := fun x xs H Q => ∃ d ds S Q0, Den K H x d ∧ DenAll K H xs ds ∧ Rel K H S ∧ R d ds S Q0 ∧ ∀ d S' v H', Q0 d S' → Den K H' v d → Rel K H' S' → Ext H H' → Q v H'
def dOp (R : DR2) (ta tb : DTE) : DTE := fun ρ S Q => ta ρ S fun d S1 => tb ρ S1 fun e S2 => R d e S2 Q
def dUn (R : D → Sto → DQ → Prop) (ta : DTE) : DTE := fun ρ S Q => ta ρ S fun d S1 => R d S1 Q
theorem l_op {K : PySem.W.Frag} {R : DR2} : ∀ σ H Q, lE K (dOp R ta tb) σ H Q → tOp (lR2 K R) (lE K ta) (lE K tb) σ H Q :=
  fun σ H Q ⟨ρ, S, Q0, dn, r, h, k⟩ => ⟨ρ, S, _, dn, r, h, fun d S1 x H1 q1 dx r1 e1 => ⟨ρ, S1, _, dn.up e1, r1, q1, fun f S2 y H2 q2 dy r2 e2 =>
    ⟨d, f, S2, Q0, dx.up e2, dy, r2, q2, fun g S3 v H3 q3 dv r3 e3 => k g S3 v H3 q3 dv r3 ((e1.trans e2).trans e3)⟩⟩⟩
theorem de_op {op : Operator} {R : DR2} (ho : OpR X (binaryOp op) (lR2 X.K R)) (ha : DE X a ta) (hb : DE X b tb) : DE X (.BinOp a op b pos) (dOp R ta tb) := ⟨(pe_op ho ha.p hb.p).weak l_op⟩
theorem de_un {op : UnaryOp} {R : D → Sto → DQ → Prop} (ho : UnR X (unaryOp op) (lR1 X.K R)) (ha : DE X a ta) : DE X (.UnaryOp op a pos) (dUn R ta) :=
  ⟨(pe_un ho ha.p).weak fun σ H Q ⟨ρ, S, Q0, dn, r, h, k⟩ => ⟨ρ, S, _, dn, r, h, fun d S1 x H1 q1 dx r1 e1 => ⟨d, S1, Q0, dx, r1, q1, fun g S3 v H3 q3 dv r3 e3 => k g S3 v H3 q3 dv r3 (e1.trans e3)⟩⟩⟩
theorem de_cmp {op : CmpOp} {R : DR2} (ho : OpR X (compareOp op) (lR2 X.K R)) (ha : DE X a ta) (hb : DE X b tb) (hm : behindInMarks op b = false := by first | exact nomark _ | rfl) : DE X (.Compare a [op] [b] pos) (dOp R ta tb) := ⟨(pe_cmpR ho ha.p hb.p hm).weak l_op⟩
/-- a value that is a bool, as a test -/
def dB (t : DTE) : DTT := fun ρ S Q => t ρ S fun d S1 => ∃ k, d = .bl k ∧ Q k S1
theorem Den.blI {K : PySem.W.Frag} {H : Hp} {x : V} {k : Bool} (h : Den K H x (.bl k)) : x = .bl k := by cases h; rfl
theorem l_B {K : PySem.W.Frag} : ∀ σ H Q, lT K (dB ta) σ H Q → tB (lE K ta) σ H Q :=
  fun σ H Q ⟨ρ, S, Q0, dn, r, h, k⟩ => ⟨ρ, S, _, dn, r, h, fun d S1 x H1 ⟨b, e, q⟩ dx r1 e1 => ⟨b, by subst e; exact dx.blI, k b S1 H1 q r1 e1⟩⟩
theorem dt_cmp {op : CmpOp} {R : DR2} (ho : OpR X (compareOp op) (lR2 X.K R)) (ha : DE X a ta) (hb : DE X b tb) (hm : behindInMarks op b = false := by first | exact nomark _ | rfl) : DT X (.Compare a [op] [b] pos) (dB (dOp R ta tb)) :=
  ⟨(pt_cmpR ho ha.p hb.p hm).weak fun σ H Q h => by
    obtain ⟨ρ, S, Q0, dn, r, h, k⟩ := h
    exact l_op σ H _ ⟨ρ, S, _, dn, r, h, fun d S1 x H1 ⟨b, e, q⟩ dx r1 e1 => ⟨b, by subst e; exact dx.blI, k b S1 H1 q r1 e1⟩⟩⟩
theorem dt_val (h : DE X e ta) (he : ∀ whole, isTrue e X.env whole = (do let v ← whole; standAt e.pos; holding [v] (truthy v)) := by intro _; rfl) : DT X e (dB ta) := ⟨(pt_val h.p he).weak l_B⟩
/-! ### and, or, not -/
variable {rest : List Expr} {tA tB' : DTT}
def dAnd (t u : DTT) : DTT := fun ρ S Q => t ρ S fun c S1 => if c = true then u ρ S1 Q else Q false S1
def dOr (t u : DTT) : DTT := fun ρ S Q => t ρ S fun c S1 => if c = true then Q true S1 else u ρ S1 Q
def dNot (t : DTT) : DTT := fun ρ S Q => t ρ S fun c S1 => Q (!c) S1
theorem DW.pt (h : DW X e tA) : DT X e tA := ⟨h.p.pt⟩
theorem dw_and1 (ha : DT X a tA) : DW X (.BoolOp .And [a] pos) tA := ⟨pw_and1 ha.p⟩
theorem dw_or1 (ha : DT X a tA) : DW X (.BoolOp .Or [a] pos) tA := ⟨pw_or1 ha.p⟩
theorem dw_and (ha : DT X a tA) (hb : DW X (.BoolOp .And (b :: rest) pos) tB') : DW X (.BoolOp .And (a :: b :: rest) pos) (dAnd tA tB') :=
  ⟨(pw_and ha.p hb.p).weak fun σ H Q ⟨ρ, S, Q0, dn, r, h, k⟩ => ⟨ρ, S, _, dn, r, h, fun c S1 H1 q r1 e1 => by
    cases c with
    | true => exact ⟨ρ, S1, Q0, dn.up e1, r1, q, fun c2 S2 H2 q2 r2 e2 => k c2 S2 H2 q2 r2 (e1.trans e2)⟩
    | false => exact k false S1 H1 q r1 e1⟩⟩
theorem dw_or (ha : DT X a tA) (hb : DW X (.BoolOp .Or (b :: rest) pos) tB') : DW X (.BoolOp .Or (a :: b :: rest) pos) (dOr tA tB') :=
  ⟨(pw_or ha.p hb.p).weak fun σ H Q ⟨ρ, S, Q0, dn, r, h, k⟩ => ⟨ρ, S, _, dn, r, h, fun c S1 H1 q r1 e1 => by
    cases c with
    | true => exact k true S1 H1 q r1 e1
    | false => exact ⟨ρ, S1, Q0, dn.up e1, r1, q, fun c2 S2 H2 q2 r2 e2 => k c2 S2 H2 q2 r2 (e1.trans e2)⟩⟩⟩
theorem dt_not (ha : DT X a tA) : DT X (.UnaryOp .Not a pos) (dNot tA) :=
  ⟨(pt_not ha.p).weak fun σ H Q ⟨ρ, S, Q0, dn, r, h, k⟩ => ⟨ρ, S, _, dn, r, h, fun c S1 H1 q r1 e1 => k (!c) S1 H1 q r1 e1⟩⟩
/-- .. as values (bools) -/
def dAndV (ta tb : DTE) : DTE := fun ρ S Q => ta ρ S fun d S1 => ∃ c, d = .bl c ∧ if c = true then tb ρ S1 Q else Q (.bl false) S1
def dOrV (ta tb : DTE) : DTE := fun ρ S Q => ta ρ S fun d S1 => ∃ c, d = .bl c ∧ if c = true then Q (.bl true) S1 else tb ρ S1 Q
theorem de_one {op} (h : DE X a ta) : DE X (.BoolOp op [a] pos) ta := ⟨pe_one h.p⟩
theorem de_and (ha : DE X a ta) (hb : DE X (.BoolOp .And (b :: rest) pos) tb) : DE X (.BoolOp .And (a :: b :: rest) pos) (dAndV ta tb) :=
  ⟨(pe_and ha.p hb.p).weak fun σ H Q ⟨ρ, S, Q0, dn, r, h, k⟩ => ⟨ρ, S, _, dn, r, h, fun d S1 x H1 ⟨c, e, q⟩ dx r1 e1 => ⟨c, by subst e; exact dx.blI, by
    subst e
    cases c with
    | true => exact ⟨ρ, S1, Q0, dn.up e1, r1, q, fun c2 S2 v H2 q2 dv r2 e2 => k c2 S2 v H2 q2 dv r2 (e1.trans e2)⟩
    | false => exact k _ S1 _ H1 q (.bl false) r1 e1⟩⟩⟩
theorem de_or (ha : DE X a ta) (hb : DE X (.BoolOp .Or (b :: rest) pos) tb) : DE X (.BoolOp .Or (a :: b :: rest) pos) (dOrV ta tb) :=
  ⟨(pe_or ha.p hb.p).weak fun σ H Q ⟨ρ, S, Q0, dn, r, h, k⟩ => ⟨ρ, S, _, dn, r, h, fun d S1 x H1 ⟨c, e, q⟩ dx r1 e1 => ⟨c, by subst e; exact dx.blI, by
    subst e
    cases c with
    | true => exact k _ S1 _ H1 q (.bl true) r1 e1
    | false => exact ⟨ρ, S1, Q0, dn.up e1, r1, q, fun c2 S2 v H2 q2 dv r2 e2 => k c2 S2 v H2 q2 dv r2 (e1.trans e2)⟩⟩⟩⟩
def dIfE (t : DTT) (ta tb : DTE) : DTE := fun ρ S Q => t ρ S fun c S1 => if c = true then ta ρ S1 Q else tb ρ S1 Q
theorem de_if (hc : DT X c tA) (ha : DE X a ta) (hb : DE X b tb) : DE X (.IfExp c a b pos) (dIfE tA ta tb) :=
  ⟨(pe_ifExp hc.p ha.p hb.p).weak fun σ H Q ⟨ρ, S, Q0, dn, r, h, k⟩ => ⟨ρ, S, _, dn, r, h, fun c S1 H1 q r1 e1 => by
    cases c with
    | true => exact ⟨ρ, S1, Q0, dn.up e1, r1, q, fun c2 S2 v H2 q2 dv r2 e2 => k c2 S2 v H2 q2 dv r2 (e1.trans e2)⟩
    | false => exact ⟨ρ, S1, Q0, dn.up e1, r1, q, fun c2 S2 v H2 q2 dv r2 e2 => k c2 S2 v H2 q2 dv r2 (e1.trans e2)⟩⟩⟩
end

/-! ### arguments and displays -/
section
variable {X : Cx} {pos : Pos} {e : Expr} {es : List Expr} {te : DTE} {t : DTA}
def dNil : DTA := fun _ S Q => Q [] S
def dCons (te : DTE) (tr : DTA) : DTA := fun ρ S Q => te ρ S fun d S1 => tr ρ S1 fun ds S2 => Q (d :: ds) S2
theorem da_nil : DA X [] dNil := ⟨pa_nil.weak fun σ H Q ⟨ρ, S, Q0, dn, r, h, k⟩ => k [] S [] H h .nil r (.refl H)⟩
theorem da_cons (ha : DE X e te) (hr : DA X es t) (hs : starEach (e :: es) X.env = (false, eval e X.env) :: starEach es X.env := by rfl) : DA X (e :: es) (dCons te t) :=
  ⟨(pa_cons ha.p hr.p hs).weak fun σ H Q ⟨ρ, S, Q0, dn, r, h, k⟩ => ⟨ρ, S, _, dn, r, h, fun d S1 x H1 q1 dx r1 e1 => ⟨ρ, S1, _, dn.up e1, r1, q1, fun ds S2 xs H2 q2 dxs r2 e2 =>
    k (d :: ds) S2 (x :: xs) H2 q2 (.cons (dx.up e2) dxs) r2 (e1.trans e2)⟩⟩⟩
def dTup (t : DTA) : DTE := fun ρ S Q => t ρ S fun ds S1 => ds.length ≤ sizeLine ∧ Q (.tup ds) S1
def dLst (t : DTA) : DTE := fun ρ S Q => t ρ S fun ds S1 => ds.length ≤ sizeLine ∧ ∀ p, S1 p = none → Q (.ref p) (supd S1 p (.list ds))
theorem de_tup {x1} (h : DA X es t) : DE X (.Tuple es x1 pos) (dTup t) :=
  ⟨(pe_tup h.p).weak fun σ H Q ⟨ρ, S, Q0, dn, r, h, k⟩ => ⟨ρ, S, _, dn, r, h, fun ds S1 vs H1 ⟨z, q⟩ dv r1 e1 => ⟨by rw [dv.len]; exact z, fun p hp =>
    k _ S1 _ _ q (.tup (.inl (.inl upd_same)) (dv.up (Ext.new hp))) (r1.new hp) (e1.trans (Ext.new hp))⟩⟩⟩
theorem de_lst (h : DA X es t) : DE X (.List es pos) (dLst t) :=
  ⟨(pe_lst h.p).weak fun σ H Q ⟨ρ, S, Q0, dn, r, h, k⟩ => ⟨ρ, S, _, dn, r, h, fun ds S1 vs H1 ⟨z, q⟩ dv r1 e1 => ⟨by rw [dv.len]; exact z, fun p hp =>
    k _ _ _ _ (q p (r1.fresh hp)) (.ref p) (r1.upd (Ext.new hp) ⟨vs, upd_same, dv.up (Ext.new hp)⟩) (e1.trans (Ext.new hp))⟩⟩⟩
end

/-! ### statements -/
section
variable {X : Cx} {pos : Pos} {st : Stmt} {rest : List Stmt} {T U : DTS} {e c : Expr} {te : DTE}
def dSeq (T U : DTS) : DTS := fun E ρ S => T { E with nx := U E } ρ S
def dNext : DTS := fun E ρ S => E.nx ρ S
theorem dss_nil : DSs X [] dNext := ⟨pss_nil.weak fun E σ H ⟨ρ, S, D0, dn, r, h, f⟩ => f.nx ρ S σ H h dn r (.refl H)⟩
theorem dss_cons (h1 : DS X st T) (h2 : DSs X rest U) : DSs X (st :: rest) (dSeq T U) :=
  ⟨(pss_cons h1.p h2.p).weak fun E σ H ⟨ρ, S, D0, dn, r, h, f⟩ => ⟨ρ, S, _, dn, r, h,
    ⟨fun ρ1 S1 σ1 H1 q d1 r1 e1 => ⟨ρ1, S1, D0, d1, r1, q, f.up e1⟩, f.rt, f.bk, f.ct⟩⟩⟩
theorem dss_one (h1 : DS X st T) : DSs X [st] T := ⟨pss_one h1.p⟩
theorem ds_pass : DS X (.Pass pos) dNext := ⟨ps_pass.weak fun E σ H ⟨ρ, S, D0, dn, r, h, f⟩ => f.nx ρ S σ H h dn r (.refl H)⟩
def dBreak : DTS := fun E ρ S => E.bk ρ S
def dCont : DTS := fun E ρ S => E.ct ρ S
theorem ds_break : DS X (.Break pos) dBreak := ⟨ps_break.weak fun E σ H ⟨ρ, S, D0, dn, r, h, f⟩ => f.bk ρ S σ H h dn r (.refl H)⟩
theorem ds_continue : DS X (.Continue pos) dCont := ⟨ps_continue.weak fun E σ H ⟨ρ, S, D0, dn, r, h, f⟩ => f.ct ρ S σ H h dn r (.refl H)⟩
def dDrop (te : DTE) : DTS := fun E ρ S => te ρ S fun _ S1 => E.nx ρ S1
theorem ds_expr (he : DE X e te) (hs : swapsWith e none pos.line X.env = pure false := by rfl) : DS X (.Expr e pos) (dDrop te) :=
  ⟨(ps_expr he.p hs).weak fun E σ H ⟨ρ, S, D0, dn, r, h, f⟩ => ⟨ρ, S, _, dn, r, h, fun d S1 v H1 q _ r1 e1 => f.nx ρ S1 σ H1 q (dn.up e1) r1 e1⟩⟩
def dRet (te : DTE) : DTS := fun E ρ S => te ρ S E.rt
theorem ds_ret (he : DE X e te) : DS X (.Return (some e) pos) (dRet te) :=
  ⟨(ps_ret he.p).weak fun E σ H ⟨ρ, S, D0, dn, r, h, f⟩ => ⟨ρ, S, _, dn, r, h, fun d S1 v H1 q dv r1 e1 => f.rt d S1 v H1 q dv r1 e1⟩⟩
def dRetN : DTS := fun E _ S => E.rt .non S
theorem ds_retN : DS X (.Return none pos) dRetN := ⟨ps_retN.weak fun E σ H ⟨ρ, S, D0, dn, r, h, f⟩ => f.rt .non S .non H h .non r (.refl H)⟩
def dIf (c : DTT) (T U : DTS) : DTS := fun E ρ S => c ρ S fun b S1 => if b = true then T E ρ S1 else U E ρ S1
theorem ds_if {a b : List Stmt} {tc : DTT} (hc : DT X c tc) (ha : DSs X a T) (hb : DSs X b U) : DS X (.If c a b pos) (dIf tc T U) :=
  ⟨(ps_if hc.p ha.p hb.p).weak fun E σ H ⟨ρ, S, D0, dn, r, h, f⟩ => ⟨ρ, S, _, dn, r, h, fun b S1 H1 q r1 e1 => by
    cases b with
    | true => exact ⟨ρ, S1, D0, dn.up e1, r1, q, f.up e1⟩
    | false => exact ⟨ρ, S1, D0, dn.up e1, r1, q, f.up e1⟩⟩⟩
def dNever : DTS := fun _ _ _ => False
theorem ds_never : DS X st dNever := ⟨ps_never.weak fun E σ H ⟨ρ, S, D0, dn, r, h, f⟩ => h⟩
theorem dss_never {sts : List Stmt} : DSs X sts dNever := ⟨pss_never.weak fun E σ H ⟨ρ, S, D0, dn, r, h, f⟩ => h⟩

/-! targets -/
abbrev DTG := D → Rho → Sto → (Rho → Sto → Prop) → Prop
abbrev DTGs := List D → Rho → Sto → (Rho → Sto → Prop) → Prop
def lG (K : PySem.W.Frag) (T : DTG) : TG := fun v σ H Q => ∃ d ρ S Q0, Den K H v d ∧ DenO K H σ ρ ∧ Rel K H S ∧ T d ρ S Q0 ∧ ∀ ρ' S' σ' H', Q0 ρ' S' → DenO K H' σ' ρ' → Rel K H' S' → Ext H H' → Q σ' H'
def lGs (K : PySem.W.Frag) (T : DTGs) : TGs := fun v σ H Q => ∃ d ρ S Q0, DenAll K H v d ∧ DenO K H σ ρ ∧ Rel K H S ∧ T d ρ S Q0 ∧ ∀ ρ' S' σ' H', Q0 ρ' S' → DenO K H' σ' ρ' → Rel K H' S' → Ext H H' → Q σ' H'
structure DG (X : Cx) (tg : Expr) (T : DTG) : Prop where
  p : PG X tg (lG X.K T)
structure DGs (X : Cx) (tg : List Expr) (T : DTGs) : Prop where
  p : PGs X tg (lGs X.K T)
theorem _root_.L2.PG.weak {e : Expr} {t t' : TG} (h : PG X e t) (w : ∀ v σ H Q, t' v σ H Q → t v σ H Q) : PG X e t' := ⟨fun pins s σ H v u Q I r q => h.run pins s σ H v u Q I r (w v σ H Q q)⟩
theorem _root_.L2.PGs.weak {e : List Expr} {t t' : TGs} (h : PGs X e t) (w : ∀ v σ H Q, t' v σ H Q → t v σ H Q) : PGs X e t' := ⟨fun pins s σ H v u Q I r q => h.run pins s σ H v u Q I r (w v σ H Q q)⟩
def gN (i : Nat) : DTG := fun d ρ S Q => Q (put ρ i d) S
theorem dg_name (i : Nat) {x : Str} (hN : X.N.Nodup) (hi : X.N[i]? = some x := by rfl) (hx : Loc X.env.scope x := by first | exact Or.inl rfl | exact Or.inr rfl) (hf : X.fn x = true ∨ X.env.scope.names.lookup x = some .local := by first | exact .inl rfl | exact .inr rfl | assumption) : DG X (.Name x pos) (gN i) :=
  ⟨(pg_name (i := i) hN hi hx hf).weak fun v σ H Q ⟨d, ρ, S, Q0, dv, dn, r, h, k⟩ => k _ S _ H h (dn.set dv) r (.refl H)⟩
def gsNil : DTGs := fun ds ρ S Q => ds = [] ∧ Q ρ S
def gsCons (t : DTG) (u : DTGs) : DTGs := fun ds ρ S Q => ∃ d r, ds = d :: r ∧ t d ρ S fun ρ' S' => u r ρ' S' Q
theorem dgs_nil : DGs X [] gsNil := ⟨pgs_nil.weak fun v σ H Q ⟨d, ρ, S, Q0, dv, dn, r, ⟨e, h⟩, k⟩ => by
  subst e; cases dv; exact ⟨rfl, k _ S _ H h dn r (.refl H)⟩⟩
theorem dgs_cons {es : List Expr} {t : DTG} {u : DTGs} (h1 : DG X e t) (h2 : DGs X es u) (hs : (assignEach (e :: es) X.env).map (·.2) = assign e X.env :: (assignEach es X.env).map (·.2) := by rfl) : DGs X (e :: es) (gsCons t u) :=
  ⟨(pgs_cons h1.p h2.p hs).weak fun v σ H Q ⟨d, ρ, S, Q0, dv, dn, r, ⟨d1, ds, e, h⟩, k⟩ => by
    subst e
    cases dv with
    | cons dv1 dvs =>
      exact ⟨_, _, rfl, d1, ρ, S, _, dv1, dn, r, h, fun ρ1 S1 σ1 H1 q d2 r1 e1 => ⟨ds, ρ1, S1, Q0, dvs.up e1, d2, r1, q, fun ρ2 S2 σ2 H2 q2 d3 r2 e2 => k ρ2 S2 σ2 H2 q2 d3 r2 (e1.trans e2)⟩⟩⟩
/-- (a, b, ..) = a tuple -/
def gT (n : Nat) (t : DTGs) : DTG := fun d ρ S Q => ∃ ds, d = .tup ds ∧ ds.length = n ∧ t ds ρ S Q
theorem dg_tup {es : List Expr} {k : Nat} {t : DTGs} {n : Nat} (h : DGs X es t) (hc : X.calm = true := by rfl) (hn : (assignEach es X.env).length = n := by rfl) (hst : (assignEach es X.env).findIdx? (·.1) = none := by rfl) : DG X (.Tuple es k pos) (gT n t) :=
  ⟨(pg_tup hc h.p hn hst).weak fun v σ H Q ⟨d, ρ, S, Q0, dv, dn, r, ⟨ds, e, hl, h⟩, k⟩ => by
    subst e
    cases dv with
    | tup h1 h2 => exact ⟨_, _, rfl, h1, by rw [h2.len]; exact hl, ds, ρ, S, Q0, h2, dn, r, h, k⟩⟩
/-- (a, b, ..) = a list -/
def gL (n : Nat) (t : DTGs) : DTG := fun d ρ S Q => ∃ a ds, d = .ref a ∧ S a = some (.list ds) ∧ ds.length = n ∧ t ds ρ S Q
theorem dg_lst {es : List Expr} {k : Nat} {t : DTGs} {n : Nat} (h : DGs X es t) (hc : X.calm = true := by rfl) (hn : (assignEach es X.env).length = n := by rfl) (hst : (assignEach es X.env).findIdx? (·.1) = none := by rfl) : DG X (.Tuple es k pos) (gL n t) :=
  ⟨(pg_unl hc h.p hn hst).weak fun v σ H Q ⟨d, ρ, S, Q0, dv, dn, r, ⟨a, ds, e, ha, hl, h⟩, k⟩ => by
    subst e
    cases dv with
    | ref =>
      obtain ⟨vs, g1, g2⟩ := r a _ ha
      exact ⟨_, _, rfl, SqL.of g1, by rw [g2.len]; exact hl, ds, ρ, S, Q0, g2, dn, r, h, k⟩⟩
def dAsg (te : DTE) (g : DTG) : DTS := fun E ρ S => te ρ S fun d S1 => g d ρ S1 E.nx
theorem ds_asg {tg : Expr} {g : DTG} (he : DE X e te) (hg : DG X tg g) (hs : swapsWithSole [tg] e pos.line X.env = pure false := by rfl) (hw : swappedStores [tg] e X.env = pure none := by rfl)
    (h1 : (assignEach [tg] X.env).map (·.2) = [assign tg X.env] := by rfl) : DS X (.Assign [tg] e pos) (dAsg te g) :=
  ⟨(ps_asg he.p hg.p hs hw h1).weak fun E σ H ⟨ρ, S, D0, dn, r, h, f⟩ => ⟨ρ, S, _, dn, r, h, fun d S1 v H1 q dv r1 e1 => ⟨d, ρ, S1, _, dv, dn.up e1, r1, q, fun ρ2 S2 σ2 H2 q2 d2 r2 e2 => f.nx ρ2 S2 σ2 H2 q2 d2 r2 (e1.trans e2)⟩⟩⟩
theorem ds_set (i : Nat) {x : Str} {pos' : Pos} (hN : X.N.Nodup) (he : DE X e te) (hi : X.N[i]? = some x := by rfl) (hx : Loc X.env.scope x := by first | exact Or.inl rfl | exact Or.inr rfl) (hs : swapsWith e (some (.Name x pos')) pos.line X.env = pure false := by rfl) (hf : X.fn x = true ∨ X.env.scope.names.lookup x = some .local := by first | exact .inl rfl | exact .inr rfl | assumption) :
    DS X (.Assign [.Name x pos'] e pos) (dAsg te (gN i)) :=
  ⟨(ps_set (i := i) hN hi hx he.p hs hf).weak fun E σ H ⟨ρ, S, D0, dn, r, h, f⟩ => ⟨ρ, S, _, dn, r, h, fun d S1 v H1 q dv r1 e1 => f.nx _ S1 _ H1 q ((dn.up e1).set dv) r1 e1⟩⟩
/-- a, b = x, y -/
def dPar (i j : Nat) (ta : DTA) : DTS := fun E ρ S => ta ρ S fun ds S1 => ∃ d e, ds = [d, e] ∧ E.nx (put (put ρ i d) j e) S1
theorem ds_par (i j : Nat) {x y : Str} {a b : Expr} {ta : DTA} {px py pt : Pos} {kt k2 pt2} (hN : X.N.Nodup) (ha : DA X [a, b] ta) (hc : X.calm = true := by rfl) (hi : X.N[i]? = some x := by rfl) (hj : X.N[j]? = some y := by rfl) (hij : i ≠ j := by decide)
    (hx : X.env.scope.names.lookup x = some .local := by rfl) (hy : X.env.scope.names.lookup y = some .local := by rfl)
    (hw : swappedStores [.Tuple [.Name x px, .Name y py] kt pt] (.Tuple [a, b] k2 pt2) X.env = pure (some [x, y]) := by rfl)
    (hs : swapsWithSole [.Tuple [.Name x px, .Name y py] kt pt] (.Tuple [a, b] k2 pt2) pos.line X.env = pure false := by rfl) :
    DS X (.Assign [.Tuple [.Name x px, .Name y py] kt pt] (.Tuple [a, b] k2 pt2) pos) (dPar i j ta) :=
  ⟨(ps_par (i := i) (j := j) hc hN hi hj hij hx hy ha.p hw hs).weak fun E σ H ⟨ρ, S, D0, dn, r, h, f⟩ => ⟨ρ, S, _, dn, r, h, fun ds S1 vs H1 ⟨d, e, eq, q⟩ dv r1 e1 => by
    subst eq
    cases dv with
    | cons v1 t =>
      cases t with
      | cons v2 t =>
        cases t
        exact ⟨_, _, rfl, f.nx _ S1 _ H1 q (((dn.up e1).set v1).set v2) r1 e1⟩⟩⟩
/-- name op= e -/
def lIp (K : PySem.W.Frag) (R : DR2) : TIp := fun x y H Q => lR2 K R x y H Q
def dAug (i : Nat) (te : DTE) (R : DR2) : DTS := fun E ρ S => ∃ d, slot ρ i = some d ∧ te ρ S fun e S1 => R d e S1 fun g S2 => E.nx (put ρ i g) S2
theorem ds_aug (i : Nat) {x : Str} {op : Operator} {R : DR2} {pos' : Pos} (hN : X.N.Nodup) (ho : PIp X op (lR2 X.K R)) (he : DE X e te) (hi : X.N[i]? = some x := by rfl) (hx : Loc X.env.scope x := by first | exact Or.inl rfl | exact Or.inr rfl) (hf : X.fn x = true ∨ X.env.scope.names.lookup x = some .local := by first | exact .inl rfl | exact .inr rfl | assumption) :
    DS X (.AugAssign (.Name x pos') op e pos) (dAug i te R) :=
  ⟨(ps_aug (i := i) hN hi hx he.p ho hf).weak fun E σ H ⟨ρ, S, D0, dn, r, ⟨d, h1, h⟩, f⟩ =>
    let ⟨v, g1, g2⟩ := dn.get i d (slot_eq _ _ _ h1)
    ⟨v, g1, ρ, S, _, dn, r, h, fun e S1 u H1 q du r1 e1 => ⟨d, e, S1, _, g2.up e1, du, r1, q, fun g S2 w H2 q2 dw r2 e2 => f.nx _ S2 _ H2 q2 ((dn.up (e1.trans e2)).set dw) r2 (e1.trans e2)⟩⟩⟩
end
end DL

namespace DL
open PySem L2 PySem.Spec PyProof.Rows

/-! ### calls -/
/-- a def of the text -/
abbrev FnD (K : PySem.W.Frag) (x qual : Str) (st : Stmt) (f : Addr) (fd : FuncData) : Prop := FunD K x qual (defArgs st) (defBody st) (defScope st) [] [] f fd
abbrev DSp := List D → Sto → DQ → Prop
structure Cal (P : Program) (w : World) (K : PySem.W.Frag) (mg : Str → Option Value) (base : Heap) (k : Nat) (x : Str) (S : DSp) : Prop where
  ex : ∃ f fd ps, FnOk P w K mg base CX0 k f fd ps (fun vs H Q _ => lC K S vs H Q) ∧ mg x = some (.ref f) ∧ PySem.W.keepIn K (.ref f) = true ∧ Binds K fd ps []
structure MCal (P : Program) (w : World) (K : PySem.W.Frag) (mg : Str → Option Value) (base : Heap) (k : Nat) (C : Addr) (m : Str) (S : DSp) : Prop where
  ex : ∃ f fd ps, Cls K C ∧ Meth K C m f ∧ FnOk P w K mg base CX0 k f fd ps (fun vs H Q _ => lC K S vs H Q) ∧ Binds K fd ps []
structure NCal (P : Program) (w : World) (K : PySem.W.Frag) (mg : Str → Option Value) (base : Heap) (k : Nat) (C : Addr) (x : Str) (S : DSp) : Prop where
  ex : ∃ f fd ps, Mk K C f ∧ FnOk P w K mg base CX0 k f fd ps (fun vs H Q _ => lC K S vs H Q) ∧ mg x = some (.ref C) ∧ Binds K fd ps []
section
variable {P : Program} {w : World} {K : PySem.W.Frag} {mg : Str → Option Value} {base : Heap}
theorem Cal.mono {j k : Nat} {x : Str} {S : DSp} (c : Cal P w K mg base j x S) (h : j ≤ k) : Cal P w K mg base k x S :=
  let ⟨f, fd, ps, F, a, b, d⟩ := c.ex; ⟨f, fd, ps, F.mono h, a, b, d⟩
theorem MCal.mono {j k : Nat} {C : Addr} {x : Str} {S : DSp} (c : MCal P w K mg base j C x S) (h : j ≤ k) : MCal P w K mg base k C x S :=
  let ⟨f, fd, ps, a, b, F, d⟩ := c.ex; ⟨f, fd, ps, a, b, F.mono h, d⟩
theorem NCal.mono {j k : Nat} {C : Addr} {x : Str} {S : DSp} (c : NCal P w K mg base j C x S) (h : j ≤ k) : NCal P w K mg base k C x S :=
  let ⟨f, fd, ps, a, F, b, d⟩ := c.ex; ⟨f, fd, ps, a, F.mono h, b, d⟩
theorem Cal.imp {k : Nat} {x : Str} {S S' : DSp} (c : Cal P w K mg base k x S) (h : ∀ ds Sz Q, S' ds Sz Q → S ds Sz Q) : Cal P w K mg base k x S' :=
  let ⟨f, fd, ps, F, a, b, d⟩ := c.ex
  ⟨f, fd, ps, F.imp fun vs H Q E ⟨ds, Sz, Q0, d1, r, s, k⟩ => ⟨ds, Sz, Q0, d1, r, h _ _ _ s, k⟩, a, b, d⟩
/-- the def stands at its name, its parameters -/
structure Def (K : PySem.W.Frag) (mg : Str → Option Value) (x : Str) (st : Stmt) (ps : List Str) : Prop where
  ex : ∃ f fd, FnD K x x st f fd ∧ mg x = some (.ref f) ∧ Binds K fd ps []
structure MDef (K : PySem.W.Frag) (C : Addr) (m qual : Str) (st : Stmt) (ps : List Str) : Prop where
  ex : ∃ f fd, FnD K m qual st f fd ∧ Meth K C m f ∧ Binds K fd ps []
/-- what leaves a def: less may be told -/
def DQ.less (Q : DQ) : DQ := fun d S => ∃ S', Sub S' S ∧ Q d S'
theorem up_ends {H : Hp} {Q : VK} {Q0 : DQ} (k : ∀ d S' v H', Q0 d S' → Den K H' v d → Rel K H' S' → Ext H H' → Q v H') :
    Fin K H { nx := fun _ S' => Q0.less .non S', rt := Q0.less } { nx := fun _ H' => Q .non H', rt := Q } :=
  ⟨fun ρ S σ H' ⟨S1, s, q⟩ dn r e => k _ S1 _ H' q .non (r.sub s) e, fun d S v H' ⟨S1, s, q⟩ dv r e => k d S1 v H' q dv (r.sub s) e, fun _ _ _ _ q _ _ _ => q.elim, fun _ _ _ _ q _ _ _ => q.elim⟩
def startD (N : List Str) (ds : List D) : Rho := ds.map some ++ List.replicate (N.length - ds.length) none
theorem start_den {H : Hp} {N : List Str} {vs : List V} {ds : List D} (h : DenAll K H vs ds) : DenO K H (L2.start N vs) (startD N ds) := by
  refine ⟨by unfold L2.start startD; rw [List.length_append, List.length_append, List.length_map, List.length_map, List.length_replicate, List.length_replicate, h.len], fun i d q => ?_⟩
  unfold startD at q
  by_cases hi : i < ds.length
  · rw [List.getElem?_append_left (by simpa using hi), List.getElem?_map] at q
    cases e : ds[i]? with
    | none => rw [e] at q; cases q
    | some d' =>
      rw [e] at q
      obtain ⟨v, g1, g2⟩ := h.get e
      have : d' = d := by simpa using q
      subst this
      refine ⟨v, ?_, g2⟩
      unfold L2.start
      rw [List.getElem?_append_left (by rw [List.length_map, h.len]; exact hi), List.getElem?_map, g1]
      rfl
  · rw [List.getElem?_append_right (by simpa using hi), List.getElem?_replicate] at q
    split at q <;> cases q
/-- THE RULE for a def -/
theorem fnok {x qual : Str} {st : Stmt} {f : Addr} {fd : FuncData} {N ps : List Str} {k : Nat} {S : DSp} (F : FnD K x qual st f fd) (Sc : FnScope N ps (defScope st)) (len : ∀ ds Sz Q, S ds Sz Q → ds.length = ps.length)
    (hbody : ∀ (cdv : Value) (A : Around) (outer : List Env) (s : Shared) (H : Hp) (E : XK), Room k (A.deeper (envOfC qual (defScope st) s.heap.objs.size f cdv)) →
      ∃ T, DSs (cxOf CX0 P w K mg base N qual (defScope st) f cdv A outer s H E).nox (defBody st) T ∧ ∀ ds Sz Q, S ds Sz Q → T { nx := fun _ S' => Q.less .non S', rt := Q.less } (startD N ds) Sz) :
    FnOk P w K mg base CX0 (k + 1) f fd ps (fun vs H Q _ => lC K S vs H Q) := by
  refine F.ok Sc (fun vs H Q E ⟨ds, Sz, Q0, dn, r, s, k⟩ => dn.len.trans (len _ _ _ s)) (fun cdv A outer s H vs Q E hr ⟨ds, Sz, Q0, dn, r, sp, kk⟩ => ?_)
  obtain ⟨T, h1, h2⟩ := hbody cdv A outer s H E hr
  exact ⟨_, PSs.nox h1.p, startD N ds, Sz, _, start_den dn, r, h2 ds Sz Q0 sp, up_ends kk⟩
theorem Def.ok {x : Str} {st : Stmt} {N ps : List Str} {k : Nat} {S : DSp} (d : Def K mg x st ps) (Sc : FnScope N ps (defScope st)) (len : ∀ ds Sz Q, S ds Sz Q → ds.length = ps.length)
    (hbody : ∀ (f : Addr) (cdv : Value) (A : Around) (outer : List Env) (s : Shared) (H : Hp) (E : XK), Room k (A.deeper (envOfC x (defScope st) s.heap.objs.size f cdv)) →
      ∃ T, DSs (cxOf CX0 P w K mg base N x (defScope st) f cdv A outer s H E).nox (defBody st) T ∧ ∀ ds Sz Q, S ds Sz Q → T { nx := fun _ S' => Q.less .non S', rt := Q.less } (startD N ds) Sz) :
    Cal P w K mg base (k + 1) x S :=
  let ⟨f, fd, F, m, b⟩ := d.ex; ⟨f, fd, ps, fnok F Sc len (hbody f), m, F.kp, b⟩
theorem MDef.ok {m qual : Str} {C : Addr} {st : Stmt} {N ps : List Str} {k : Nat} {S : DSp} (d : MDef K C m qual st ps) (cl : Cls K C) (Sc : FnScope N ps (defScope st)) (len : ∀ ds Sz Q, S ds Sz Q → ds.length = ps.length)
    (hbody : ∀ (f : Addr) (cdv : Value) (A : Around) (outer : List Env) (s : Shared) (H : Hp) (E : XK), Room k (A.deeper (envOfC qual (defScope st) s.heap.objs.size f cdv)) →
      ∃ T, DSs (cxOf CX0 P w K mg base N qual (defScope st) f cdv A outer s H E).nox (defBody st) T ∧ ∀ ds Sz Q, S ds Sz Q → T { nx := fun _ S' => Q.less .non S', rt := Q.less } (startD N ds) Sz) :
    MCal P w K mg base (k + 1) C m S :=
  let ⟨f, fd, F, m, b⟩ := d.ex; ⟨f, fd, ps, cl, m, fnok F Sc len (hbody f), b⟩
theorem NDef.ok {qual x : Str} {C fi : Addr} {fd : FuncData} {st : Stmt} {N ps : List Str} {k : Nat} {S : DSp} (F : FnD K "__init__" qual st fi fd) (M : Mk K C fi) (hm : mg x = some (.ref C)) (b : Binds K fd ps []) (Sc : FnScope N ps (defScope st)) (len : ∀ ds Sz Q, S ds Sz Q → ds.length = ps.length)
    (hbody : ∀ (f : Addr) (cdv : Value) (A : Around) (outer : List Env) (s : Shared) (H : Hp) (E : XK), Room k (A.deeper (envOfC qual (defScope st) s.heap.objs.size f cdv)) →
      ∃ T, DSs (cxOf CX0 P w K mg base N qual (defScope st) f cdv A outer s H E).nox (defBody st) T ∧ ∀ ds Sz Q, S ds Sz Q → T { nx := fun _ S' => Q.less .non S', rt := Q.less } (startD N ds) Sz) :
    NCal P w K mg base (k + 1) C x S := ⟨fi, fd, ps, M, fnok F Sc len (hbody fi), hm, b⟩
end

section
variable {X : Cx} {k : Nat} {x m : Str} {C : Addr} {S : DSp} {p pos apos : Pos} {e o : Expr} {es : List Expr} {to : DTE} {t : DTA}
def dCall (S : DSp) (t : DTA) : DTE := fun ρ S0 Q => t ρ S0 fun ds S1 => S ds S1 Q
theorem l_call : ∀ σ H Q, lE X.K (dCall S t) σ H Q → tCall (fun vs H Q _ => lC X.K S vs H Q) [] E0 (lA X.K t) σ H Q :=
  fun σ H Q ⟨ρ, S0, Q0, dn, r, h, k⟩ => ⟨ρ, S0, _, dn, r, h, fun ds S1 vs H1 q dv r1 e1 => by
    show lC X.K S (vs ++ []) H1 Q
    rw [List.append_nil]
    exact ⟨ds, S1, Q0, dv, r1, q, fun g S3 v H3 q3 dv r3 e3 => k g S3 v H3 q3 dv r3 (e1.trans e3)⟩⟩
theorem de_call (c : Cal X.prog X.w X.K X.mg X.base k x S) (hr : Room k X.A) (ha : DA X (e :: es) t) (hg : Gl X x := by rfl) (hdb : (x == ("__debug__" : Str)) = false := by decide) (he : starEach (e :: es) X.env = (false, eval e X.env) :: starEach es X.env := by rfl) (hpl : (backTo pos (starEach es X.env)).any (·.1) = false := by rfl) :
    DE X (.Call (.Name x p) (e :: es) [] pos) (dCall S t) :=
  let ⟨_, _, _, F, hm, hk, hb⟩ := c.ex
  ⟨(pe_call F hr hg hm hk hb .nil pass0 ha.p hdb he hpl).weak l_call⟩
theorem de_call0 (c : Cal X.prog X.w X.K X.mg X.base k x S) (hr : Room k X.A) (hg : Gl X x := by rfl) (hdb : (x == ("__debug__" : Str)) = false := by decide) :
    DE X (.Call (.Name x p) [] [] pos) (dCall S dNil) :=
  let ⟨_, _, _, F, hm, hk, hb⟩ := c.ex
  ⟨(pe_call0 F hr hg hm hk hb .nil pass0 hdb).weak fun σ H Q ⟨ρ, S0, Q0, dn, r, h, k⟩ => ⟨[], S0, Q0, .nil, r, h, k⟩⟩
theorem KV.lookup_none {K : PySem.W.Frag} {H : Hp} : ∀ {vs : List (Str × V)} {ds : List (Str × D)} {f : Str}, DenKV K H vs ds → ds.lookup f = none → vs.lookup f = none
  | _, _, f, .nil, _ => rfl
  | (a, v) :: vs, (b, d) :: ds, f, .cons r t, h => by
    obtain ⟨e, _⟩ := r
    have e : a = b := e
    subst e
    rw [List.lookup_cons] at h ⊢
    cases q : f == a with
    | true => rw [q] at h; cases h
    | false => rw [q] at h; exact KV.lookup_none t h
theorem KV.lookup_some {K : PySem.W.Frag} {H : Hp} : ∀ {vs : List (Str × V)} {ds : List (Str × D)} {f : Str} {d : D}, DenKV K H vs ds → ds.lookup f = some d → ∃ v, vs.lookup f = some v ∧ Den K H v d
  | _, _, f, d, .nil, h => by cases h
  | (a, v) :: vs, (b, d') :: ds, f, d, .cons r t, h => by
    obtain ⟨e, dv⟩ := r
    have e : a = b := e
    subst e
    rw [List.lookup_cons] at h ⊢
    cases q : f == a with
    | true => rw [q] at h; cases h; exact ⟨v, rfl, dv⟩
    | false => rw [q] at h; exact KV.lookup_some t h
def dMeth (C : Addr) (m : Str) (S : DSp) (to : DTE) (t : DTA) : DTE := fun ρ S0 Q => to ρ S0 fun d S1 => ∃ a fs, d = .ref a ∧ S1 a = some (.ins C fs) ∧ fs.lookup m = none ∧ t ρ S1 fun ds S2 => S (d :: ds) S2 Q
theorem l_meth : ∀ σ H Q, lE X.K (dMeth C m S to t) σ H Q → tMeth C m (fun vs H Q _ => lC X.K S vs H Q) [] E0 (lE X.K to) (lA X.K t) σ H Q :=
  fun σ H Q ⟨ρ, S0, Q0, dn, r, h, k⟩ => ⟨ρ, S0, _, dn, r, h, fun d S1 v H1 ⟨a, fs, e, ha, hl, q⟩ dv r1 e1 => by
    subst e
    cases dv with
    | ref =>
      obtain ⟨dx, vs, g1, g2⟩ := r1 a _ ha
      refine ⟨a, dx, vs, rfl, g1, KV.lookup_none g2 hl, ρ, S1, _, dn.up e1, r1, q, fun ds S2 us H2 q2 du r2 e2 => ?_⟩
      show lC X.K S (V.ref a :: (us ++ [])) H2 Q
      rw [List.append_nil]
      exact ⟨_, S2, Q0, .cons (.ref a) du, r2, q2, fun g S3 v H3 q3 dv r3 e3 => k g S3 v H3 q3 dv r3 ((e1.trans e2).trans e3)⟩⟩
theorem de_meth {pl : Sem Bool} (c : MCal X.prog X.w X.K X.mg X.base k C m S) (hr : Room k X.A) (ho : DE X o to) (ha : DA X (e :: es) t)
    (hst : starEach (e :: es) X.env = (false, eval e X.env) :: starEach es X.env := by rfl) (hpl : (backTo pos (starEach es X.env)).any (·.1) = false := by rfl)
    (ht : eval (.Call (.Attribute o m apos) (e :: es) [] pos) X.env = (do
      let ov ← eval o X.env
      standAt apos.atName
      let (f, first) ← holding [ov] (getMethod ov m pl)
      callWith pos f first (backTo pos (starEach (e :: es) X.env)) (backToKw pos (keywordEach [] X.env))) := by rfl) : DE X (.Call (.Attribute o m apos) (e :: es) [] pos) (dMeth C m S to t) :=
  let ⟨_, _, _, cl, hm, F, hb⟩ := c.ex
  ⟨(pe_meth ho.p cl hm F hr hb .nil pass0 ha.p hst hpl ht).weak l_meth⟩
theorem de_meth0 {pl : Sem Bool} (c : MCal X.prog X.w X.K X.mg X.base k C m S) (hr : Room k X.A) (ho : DE X o to)
    (ht : eval (.Call (.Attribute o m apos) [] [] pos) X.env = (do
      let ov ← eval o X.env
      standAt apos.atName
      let (f, first) ← holding [ov] (getMethod ov m pl)
      callWith pos f first (backTo pos (starEach [] X.env)) (backToKw pos (keywordEach [] X.env))) := by rfl) : DE X (.Call (.Attribute o m apos) [] [] pos) (dMeth C m S to dNil) :=
  let ⟨_, _, _, cl, hm, F, hb⟩ := c.ex
  ⟨(pe_meth0 ho.p cl hm F hr hb .nil pass0 ht).weak fun σ H Q ⟨ρ, S0, Q0, dn, r, h, k⟩ => ⟨ρ, S0, _, dn, r, h, fun d S1 v H1 ⟨a, fs, e, ha, hl, q⟩ dv r1 e1 => by
    subst e
    cases dv with
    | ref =>
      obtain ⟨dx, vs, g1, g2⟩ := r1 a _ ha
      exact ⟨a, dx, vs, rfl, g1, KV.lookup_none g2 hl, _, S1, Q0, .cons (.ref a) .nil, r1, q, fun g S3 v H3 q3 dv r3 e3 => k g S3 v H3 q3 dv r3 (e1.trans e3)⟩⟩⟩
/-- a new instance -/
def dMake (C : Addr) (S : DSp) (t : DTA) : DTE := fun ρ S0 Q => t ρ S0 fun ds S1 => ∀ x, S1 x = none → S (.ref x :: ds) (supd S1 x (.ins C [])) fun d S2 => d = .non ∧ Q (.ref x) S2
theorem de_make (c : NCal X.prog X.w X.K X.mg X.base k C x S) (hr : Room (k + 1) X.A) (ha : DA X (e :: es) t) (hg : Gl X x := by rfl) (hdb : (x == ("__debug__" : Str)) = false := by decide) (he : starEach (e :: es) X.env = (false, eval e X.env) :: starEach es X.env := by rfl) (hpl : (backTo pos (starEach es X.env)).any (·.1) = false := by rfl) :
    DE X (.Call (.Name x p) (e :: es) [] pos) (dMake C S t) :=
  let ⟨_, _, _, M, F, hm, hb⟩ := c.ex
  ⟨(pe_make M F hr hg hm hb .nil pass0 ha.p hdb he hpl).weak fun σ H Q ⟨ρ, S0, Q0, dn, r, h, k⟩ => ⟨ρ, S0, _, dn, r, h, fun ds S1 vs H1 q dv r1 e1 x dx nx ndx ne => by
    show lC X.K S (.ref x :: (vs ++ [])) _ _
    rw [List.append_nil]
    have ea : Ext H1 (upd H1 dx (.own x)) := Ext.new ndx
    have nx' : upd H1 dx (.own x) x = none := by rw [upd_ne (Ne.symm ne)]; exact nx
    have eb : Ext (upd H1 dx (.own x)) (upd (upd H1 dx (.own x)) x (.ins C dx [])) := Ext.new nx'
    refine ⟨_, supd S1 x (.ins C []), _, .cons (.ref x) ((dv.up ea).up eb), (r1.new ndx).upd eb ⟨dx, [], upd_same, .nil⟩, q x (r1.fresh nx), ?_⟩
    rintro d S3 v H3 ⟨rfl, q3⟩ dv3 r3 e3
    refine ⟨by cases dv3; rfl, k _ _ _ _ q3 (.ref x) r3 (((e1.trans ea).trans eb).trans e3)⟩⟩⟩
theorem de_make0 (c : NCal X.prog X.w X.K X.mg X.base k C x S) (hr : Room (k + 1) X.A) (hg : Gl X x := by rfl) (hdb : (x == ("__debug__" : Str)) = false := by decide) :
    DE X (.Call (.Name x p) [] [] pos) (dMake C S dNil) :=
  let ⟨_, _, _, M, F, hm, hb⟩ := c.ex
  ⟨(pe_make0 M F hr hg hm hb .nil pass0 hdb).weak fun σ H1 Q ⟨ρ, S1, Q0, dn, r1, q, k⟩ x dx nx ndx ne => by
    have ea : Ext H1 (upd H1 dx (.own x)) := Ext.new ndx
    have nx' : upd H1 dx (.own x) x = none := by rw [upd_ne (Ne.symm ne)]; exact nx
    have eb : Ext (upd H1 dx (.own x)) (upd (upd H1 dx (.own x)) x (.ins C dx [])) := Ext.new nx'
    refine ⟨_, supd S1 x (.ins C []), _, .cons (.ref x) .nil, (r1.new ndx).upd eb ⟨dx, [], upd_same, .nil⟩, q x (r1.fresh nx), ?_⟩
    rintro d S3 v H3 ⟨rfl, q3⟩ dv3 r3 e3
    refine ⟨by cases dv3; rfl, k _ _ _ _ q3 (.ref x) r3 ((ea.trans eb).trans e3)⟩⟩
end

/-! ### attributes -/
structure ClsF (K : PySem.W.Frag) (C : Addr) (f : Str) : Prop where
  c : Cls K C
  n : NoAttr K C f
section
variable {X : Cx} {f : Str} {pos pos' tpos : Pos} {e o value : Expr} {te tv : DTE}
def dFld (K : PySem.W.Frag) (te : DTE) (f : Str) : DTE := fun ρ S Q => te ρ S fun d S1 => ∃ a C fs v, d = .ref a ∧ S1 a = some (.ins C fs) ∧ ClsF K C f ∧ fs.lookup f = some v ∧ Q v S1
theorem de_fld (he : DE X e te) (hb : attributeBase e f X.env (eval e X.env) = eval e X.env := by rfl) : DE X (.Attribute e f pos) (dFld X.K te f) :=
  ⟨(pe_fld he.p hb).weak fun σ H Q ⟨ρ, S0, Q0, dn, r, h, k⟩ => ⟨ρ, S0, _, dn, r, h, fun d S1 v H1 ⟨a, C, fs, d', e, ha, cf, hl, q⟩ dv r1 e1 => by
    subst e
    cases dv with
    | ref =>
      obtain ⟨dx, vs, g1, g2⟩ := r1 a _ ha
      obtain ⟨v', l1, l2⟩ := KV.lookup_some g2 hl
      exact ⟨a, C, dx, vs, v', rfl, g1, cf.c, cf.n, l1, k _ S1 _ H1 q l2 r1 e1⟩⟩⟩
def putD (f : Str) (v : D) : List (Str × D) → List (Str × D)
  | [] => [(f, v)]
  | (g, x) :: r => if g = f then (g, v) :: r else (g, x) :: putD f v r
theorem KV.putD {K : PySem.W.Frag} {H : Hp} {f : Str} {v : V} {d : D} (dv : Den K H v d) : ∀ {vs : List (Str × V)} {ds : List (Str × D)}, DenKV K H vs ds → DenKV K H (putF f v vs) (putD f d ds)
  | _, _, .nil => .cons ⟨rfl, dv⟩ .nil
  | (a, u) :: vs, (b, x) :: ds, .cons r t => by
    obtain ⟨e, du⟩ := r
    have e : a = b := e
    subst e
    unfold putF DL.putD
    by_cases h : a = f
    · rw [if_pos h, if_pos h]; exact .cons ⟨rfl, dv⟩ t
    · rw [if_neg h, if_neg h]; exact .cons ⟨rfl, du⟩ (KV.putD dv t)
theorem KV.len {κ : Type} {K : PySem.W.Frag} {H : Hp} {vs : List (κ × V)} {ds : List (κ × D)} (h : DenKV K H vs ds) : vs.length = ds.length := Paired.length h
theorem lookup_putD (f g : Str) (v : D) : ∀ fs : List (Str × D), (putD f v fs).lookup g = if g = f then some v else fs.lookup g
  | [] => by
    show List.lookup g [(f, v)] = _
    by_cases h : g = f
    · have hb : (g == f) = true := beq_iff_eq.mpr h
      simp only [List.lookup, hb, if_pos h]
    · have hb : (g == f) = false := beq_eq_false_iff_ne.mpr h
      simp only [List.lookup, hb, if_neg h]
  | (k, x) :: r => by
    have ih := lookup_putD f g v r
    rw [show putD f v ((k, x) :: r) = (if k = f then (k, v) :: r else (k, x) :: putD f v r) from rfl]
    by_cases hk : k = f
    · rw [if_pos hk]
      by_cases h : g = k
      · have hb : (g == k) = true := beq_iff_eq.mpr h
        simp only [List.lookup, hb, if_pos (h.trans hk)]
      · have hb : (g == k) = false := beq_eq_false_iff_ne.mpr h
        simp only [List.lookup, hb, if_neg (fun e : g = f => h (e.trans hk.symm))]
    · rw [if_neg hk]
      by_cases h : g = k
      · have hb : (g == k) = true := beq_iff_eq.mpr h
        simp only [List.lookup, hb, if_neg (fun e : g = f => hk (h.symm.trans e))]
      · have hb : (g == k) = false := beq_eq_false_iff_ne.mpr h
        simp only [List.lookup, hb]
        exact ih
def sFldD (K : PySem.W.Frag) (te tv : DTE) (f : Str) : DTS := fun E ρ S => tv ρ S fun dv S1 => te ρ S1 fun d S2 => ∃ a C fs, d = .ref a ∧ S2 a = some (.ins C fs) ∧ ClsF K C f ∧ fs.length < 1000 ∧ E.nx ρ (supd S2 a (.ins C (putD f dv fs)))
theorem ds_fld (he : DE X o te) (hv : DE X value tv) (hs : swapsWith value (some (.Attribute o f pos')) pos.line X.env = pure false := by rfl) : DS X (.Assign [.Attribute o f pos'] value pos) (sFldD X.K te tv f) :=
  ⟨(ps_fld he.p hv.p hs).weak fun E σ H ⟨ρ, S0, D0, dn, r, h, fn⟩ => ⟨ρ, S0, _, dn, r, h, fun d S1 v H1 q dv r1 e1 => ⟨ρ, S1, _, dn.up e1, r1, q, fun d2 S2 u H2 ⟨a, C, fs, e, ha, cf, hl, q2⟩ du r2 e2 => by
    subst e
    cases du with
    | ref =>
      obtain ⟨dx, vs, g1, g2⟩ := r2 a _ ha
      have e3 : Ext H2 (upd H2 a (.ins C dx (putF f v vs))) := Ext.mut g1 trivial
      exact ⟨a, C, dx, vs, rfl, g1, cf.c, cf.n, by rw [KV.len g2]; exact hl, fn.nx _ _ _ _ q2 (((dn.up e1).up e2).up e3) (r2.upd e3 ⟨dx, _, upd_same, DenKV.up (KV.putD (dv.up e2) g2) e3⟩) ((e1.trans e2).trans e3)⟩⟩⟩⟩
def sAugD (K : PySem.W.Frag) (te tv : DTE) (R : DR2) (f : Str) : DTS := fun E ρ S => te ρ S fun d S1 => ∃ a C fs v, d = .ref a ∧ S1 a = some (.ins C fs) ∧ ClsF K C f ∧ fs.lookup f = some v ∧
  tv ρ S1 fun dv S2 => R v dv S2 fun z S3 => ∃ fs', S3 a = some (.ins C fs') ∧ fs'.length < 1000 ∧ E.nx ρ (supd S3 a (.ins C (putD f z fs')))
theorem ds_fldaug {op : Operator} {R : DR2} (he : DE X o te) (hv : DE X value tv) (hop : InOp X op (lR2 X.K R)) : DS X (.AugAssign (.Attribute o f tpos) op value pos) (sAugD X.K te tv R f) :=
  ⟨(ps_fldaug he.p hv.p hop).weak fun E σ H ⟨ρ, S0, D0, dn, r, h, fn⟩ => ⟨ρ, S0, _, dn, r, h, fun d S1 u H1 ⟨a, C, fs, d', e, ha, cf, hl, q⟩ du r1 e1 => by
    subst e
    cases du with
    | ref =>
      obtain ⟨dx, vs, g1, g2⟩ := r1 a _ ha
      obtain ⟨v', l1, l2⟩ := KV.lookup_some g2 hl
      refine ⟨a, C, dx, vs, v', rfl, g1, cf.c, cf.n, l1, ρ, S1, _, dn.up e1, r1, q, fun d2 S2 y H2 q2 dy r2 e2 => ?_⟩
      refine ⟨d', d2, S2, _, l2.up e2, dy, r2, q2, ?_⟩
      rintro z S3 zv H3 ⟨fs', ha', hl', q3⟩ dz r3 e3
      obtain ⟨dx', vs', g1', g2'⟩ := r3 a _ ha'
      have e4 : Ext H3 (upd H3 a (.ins C dx' (putF f zv vs'))) := Ext.mut g1' trivial
      exact ⟨dx', vs', g1', by rw [KV.len g2']; exact hl', fn.nx _ _ _ _ q3 ((((dn.up e1).up e2).up e3).up e4) (r3.upd e4 ⟨dx', _, upd_same, DenKV.up (KV.putD dz g2') e4⟩) (((e1.trans e2).trans e3).trans e4)⟩⟩⟩
end

/-! ### subscripts -/
section
variable {X : Cx} {pos p2 : Pos} {a b e : Expr} {ta tb te : DTE}
def oIx : DR2 := fun d i S Q => match d, i with
  | .tup ds, .int i => ∃ v, atI ds i = some v ∧ Q v S
  | .lit ds, .int i => ∃ v, atI ds i = some v ∧ Q v S
  | .ref a, .int i => ∃ ds v, S a = some (.list ds) ∧ atI ds i = some v ∧ Q v S
  | .str z, .int i => ∃ c, z.length ≤ sizeLine ∧ atI z.cps.toList i = some c ∧ Q (.str ⟨#[c]⟩) S
  | _, _ => False
theorem atI_den {K : PySem.W.Frag} {H : Hp} {vs : List V} {ds : List D} {i : Int} {d : D} (h : DenAll K H vs ds) (e : atI ds i = some d) : ∃ v, atI vs i = some v ∧ Den K H v d := by
  unfold atI at e ⊢
  rw [h.len]
  cases q : ixN ds.length i with
  | none => rw [q] at e; cases e
  | some j => rw [q] at e; exact h.get e
theorem ix_D : IxR X (lR2 X.K oIx) := by
  intro value slice pins s σ H x y v u Q I rx ry ⟨d, f, S, Q0, dx, dy, r, h, k⟩ hs
  cases dy with
  | int i =>
    cases dx with
    | tup h1 h2 =>
      obtain ⟨z, hz, q⟩ := h
      obtain ⟨zv, g1, g2⟩ := atI_den h2 hz
      exact ix_tup value slice pins s σ H _ _ v u Q I rx ry ⟨_, _, _, zv, rfl, rfl, h1, g1, k _ S _ H q g2 r (.refl H)⟩ hs
    | lit h1 h2 =>
      obtain ⟨z, hz, q⟩ := h
      obtain ⟨zv, g1, g2⟩ := atI_den h2 hz
      exact ix_list value slice pins s σ H _ _ v u Q I rx ry ⟨_, _, _, zv, rfl, rfl, h1.1, g1, k _ S _ H q g2 r (.refl H)⟩ hs
    | ref a =>
      obtain ⟨ds, z, ha, hz, q⟩ := h
      obtain ⟨vs, g0, gd⟩ := r a _ ha
      obtain ⟨zv, g1, g2⟩ := atI_den gd hz
      exact ix_list value slice pins s σ H _ _ v u Q I rx ry ⟨_, _, _, zv, rfl, rfl, SqL.of g0, g1, k _ S _ H q g2 r (.refl H)⟩ hs
    | str z =>
      obtain ⟨c, hl, hc, q⟩ := h
      exact ix_str value slice pins s σ H _ _ v u Q I rx ry ⟨z, i, c, rfl, rfl, hl, hc, k _ S _ H q (.str _) r (.refl H)⟩ hs
    | _ => exact h.elim
  | _ => cases dx <;> exact h.elim
theorem de_ix (ha : DE X a ta) (hb : DE X b tb) (hs : PlainIx b := by exact fun _ _ => rfl) : DE X (.Subscript a b pos) (dOp oIx ta tb) := ⟨(pe_ix ix_D ha.p hb.p hs).weak l_op⟩
/-! slices -/
abbrev DTO := Rho → Sto → (Option Int → Sto → Prop) → Prop
def lO (K : PySem.W.Frag) (T : DTO) : TO := fun σ H Q => ∃ ρ S Q0, DenO K H σ ρ ∧ Rel K H S ∧ T ρ S Q0 ∧ ∀ b S' H', Q0 b S' → Rel K H' S' → Ext H H' → Q b H'
structure DP (X : Cx) (e : Option Expr) (T : DTO) : Prop where
  p : PO X e (lO X.K T)
def dNoP : DTO := fun _ S Q => Q none S
def dPart (t : DTE) : DTO := fun ρ S Q => t ρ S fun d S1 => ∃ i, d = .int i ∧ Q (some i) S1
theorem _root_.L2.PO.weak {e : Option Expr} {t t' : TO} (h : PO X e t) (w : ∀ σ H Q, t' σ H Q → t σ H Q) : PO X e t' := ⟨fun pins s σ H Q I q => h.run pins s σ H Q I (w σ H Q q)⟩
theorem dp_none : DP X none dNoP := ⟨po_none.weak fun σ H Q ⟨ρ, S, Q0, dn, r, h, k⟩ => k _ S H h r (.refl H)⟩
theorem dp_some (h : DE X e te) : DP X (some e) (dPart te) := ⟨(po_some h.p).weak fun σ H Q ⟨ρ, S, Q0, dn, r, h, k⟩ => ⟨ρ, S, _, dn, r, h, fun d S1 v H1 ⟨i, e, q⟩ dv r1 e1 => by
  subst e; cases dv; exact ⟨i, rfl, k _ S1 H1 q r1 e1⟩⟩⟩
def cutD (xs : List D) (lo hi : Option Int) : List D := (xs.drop (HT.sIx xs.length 0 lo)).take (HT.sIx xs.length xs.length hi - HT.sIx xs.length 0 lo)
theorem cut_den {K : PySem.W.Frag} {H : Hp} {vs : List V} {ds : List D} {lo hi : Option Int} (h : DenAll K H vs ds) : DenAll K H (cutV vs lo hi) (cutD ds lo hi) := by
  unfold cutV cutD
  rw [h.len]
  exact (h.drop _).take _
def oSl : D → Option Int → Option Int → Sto → DQ → Prop := fun d lo hi S Q => match d with
  | .tup ds => Q (.tup (cutD ds lo hi)) S
  | .ref a => ∃ ds, S a = some (.list ds) ∧ ∀ p, S p = none → Q (.ref p) (supd S p (.list (cutD ds lo hi)))
  | .str z => z.length ≤ sizeLine ∧ Q (.str (cutS z lo hi)) S
  | _ => False
def lSl (K : PySem.W.Frag) (R : D → Option Int → Option Int → Sto → DQ → Prop) : V → Option Int → Option Int → Hp → VK → Prop := fun x lo hi H Q => ∃ d S Q0, Den K H x d ∧ Rel K H S ∧ R d lo hi S Q0 ∧ ∀ d S' v H', Q0 d S' → Den K H' v d → Rel K H' S' → Ext H H' → Q v H'
theorem sIx_le (n d : Nat) (o : Option Int) (h : d ≤ n) : HT.sIx n d o ≤ n := by
  unfold HT.sIx
  cases o with
  | none => exact h
  | some i => simp only; split <;> omega
theorem sl_D : SlR X (lSl X.K oSl) := by
  intro pins s σ H x v vl vu lo hi sl Q I rx hs pl pu ⟨d, S, Q0, dx, r, h, k⟩
  cases dx with
  | tup h1 h2 =>
    rename_i aa xs ds
    refine sl_tupA pins s σ H _ v vl vu lo hi sl Q I rx hs pl pu ⟨_, _, rfl, h1, fun hw => ?_, fun _ p hp => ?_⟩
    · have e : cutD ds lo hi = ds := by
        unfold cutD
        rw [← h2.len, hw.1, hw.2, List.drop_zero, Nat.sub_zero, h2.len, List.take_length]
      have h : Q0 (.tup (cutD ds lo hi)) S := h
      rw [e] at h
      exact k _ S _ H h (.tup h1 h2) r (.refl H)
    · exact k _ S _ _ h (.tup (.inl (.inl upd_same)) ((cut_den h2).up (Ext.new hp))) (r.new hp) (Ext.new hp)
  | ref a =>
    obtain ⟨ds, ha, q⟩ := h
    obtain ⟨vs, g0, gd⟩ := r a _ ha
    refine sl_list pins s σ H _ v vl vu lo hi sl Q I rx hs pl pu ⟨_, _, rfl, SqL.of g0, fun p hp => ?_⟩
    exact k _ _ _ _ (q p (r.fresh hp)) (.ref p) (r.upd (Ext.new hp) ⟨_, upd_same, (cut_den gd).up (Ext.new hp)⟩) (Ext.new hp)
  | str z => exact sl_str pins s σ H _ v vl vu lo hi sl Q I rx hs pl pu ⟨z, rfl, h.1, k _ S _ H h.2 (.str _) r (.refl H)⟩
  | _ => exact h.elim
def dSl (te : DTE) (tl th : DTO) : DTE := fun ρ S Q => te ρ S fun d S1 => tl ρ S1 fun l S2 => th ρ S2 fun u S3 => oSl d l u S3 Q
theorem de_slice {lo hi : Option Expr} {tl th : DTO} (he : DE X e te) (hl : DP X lo tl) (hu : DP X hi th) : DE X (.Subscript e (.Slice lo hi none p2) pos) (dSl te tl th) :=
  ⟨(pe_slice sl_D he.p hl.p hu.p).weak fun σ H Q ⟨ρ, S, Q0, dn, r, h, k⟩ => ⟨ρ, S, _, dn, r, h, fun d S1 v H1 q dv r1 e1 => ⟨ρ, S1, _, dn.up e1, r1, q, fun l S2 H2 q2 r2 e2 => ⟨ρ, S2, _, (dn.up e1).up e2, r2, q2, fun u S3 H3 q3 r3 e3 =>
    ⟨d, S3, Q0, (dv.up e2).up e3, r3, q3, fun g S4 w H4 q4 dw r4 e4 => k g S4 w H4 q4 dw r4 (((e1.trans e2).trans e3).trans e4)⟩⟩⟩⟩⟩
/-! stores -/
def lPS (K : PySem.W.Frag) (R : D → D → D → Sto → (Sto → Prop) → Prop) : TSet := fun o i v H Q => ∃ d e f S Q0, Den K H o d ∧ Den K H i e ∧ Den K H v f ∧ Rel K H S ∧ R d e f S Q0 ∧ ∀ S' H', Q0 S' → Rel K H' S' → Ext H H' → Q H'
def oSetL : D → D → D → Sto → (Sto → Prop) → Prop := fun o i v S Q => ∃ a ds k j, o = .ref a ∧ i = .int k ∧ S a = some (.list ds) ∧ ixN ds.length k = some j ∧ Q (supd S a (.list (ds.set j v)))
theorem set_D : PSet X (lPS X.K oSetL) := by
  intro pins s σ H o i v ov iv u Q I ro ri rv ⟨d, f, g, S, Q0, d1, d2, d3, r, ⟨a, ds, z, j, e1, e2, ha, hj, q⟩, k⟩
  subst e1 e2
  cases d1
  cases d2
  obtain ⟨vs, g0, gd⟩ := r a _ ha
  have e : Ext H (upd H a (.lst (vs.set j v))) := Ext.mut g0 trivial
  exact set_list pins s σ H _ _ _ ov iv u Q I ro ri rv ⟨a, vs, z, j, rfl, rfl, g0, by rw [gd.len]; exact hj, k _ _ q (r.upd e ⟨_, upd_same, (DenAll.set d3 j gd).up e⟩) e⟩
def gIxD (to ti : DTE) (R : D → D → D → Sto → (Sto → Prop) → Prop) : DTG := fun v ρ S Q => to ρ S fun o S1 => ti ρ S1 fun i S2 => R o i v S2 fun S3 => Q ρ S3
theorem dg_ix {o i : Expr} {to ti : DTE} (ho : DE X o to) (hi : DE X i ti) (ha : ∀ v, assign (.Subscript o i pos) X.env v = (do
      let ov ← holding [v] (eval o X.env)
      let iv ← holding [v, ov] (eval i X.env)
      standAt pos
      holding [v, ov, iv] (setItem ov iv v)
      release [v, ov, iv] []) := by intro _; rfl) : DG X (.Subscript o i pos) (gIxD to ti oSetL) :=
  ⟨(pg_sub ho.p hi.p set_D ha).weak fun v σ H Q ⟨d, ρ, S, Q0, dv, dn, r, h, k⟩ => ⟨ρ, S, _, dn, r, h, fun o S1 ov H1 q1 do1 r1 e1 => ⟨ρ, S1, _, dn.up e1, r1, q1, fun i S2 iv H2 q2 di r2 e2 =>
    ⟨o, i, d, S2, _, do1.up e2, di, (dv.up e1).up e2, r2, q2, fun S3 H3 q3 r3 e3 => k ρ S3 σ H3 q3 (((dn.up e1).up e2).up e3) r3 ((e1.trans e2).trans e3)⟩⟩⟩⟩
end

/-! ### built-ins -/
section
variable {X : Cx} {x : Str} {p pos apos cpos : Pos} {e o : Expr} {es : List Expr} {t : DTA} {to : DTE} {id T : String} {R : List D → Sto → DQ → Prop} {M : D → List D → Sto → DQ → Prop} {name : Str}
def dCB (R : List D → Sto → DQ → Prop) (t : DTA) : DTE := fun ρ S Q => t ρ S fun ds S1 => R ds S1 Q
theorem l_CB : ∀ σ H Q, lE X.K (dCB R t) σ H Q → tCB (lC X.K R) (lA X.K t) σ H Q :=
  fun σ H Q ⟨ρ, S, Q0, dn, r, h, k⟩ => ⟨ρ, S, _, dn, r, h, fun ds S1 vs H1 q dv r1 e1 => ⟨ds, S1, Q0, dv, r1, q, fun g S3 v H3 q3 dv r3 e3 => k g S3 v H3 q3 dv r3 (e1.trans e3)⟩⟩
theorem de_callB (hc : CallR X (.builtin id) (lC X.K R)) (hm : X.mg x = none) (ha : DA X (e :: es) t) (hv : bootBuiltins x = some (.builtin id) := by decide +kernel) (hg : Gl X x := by rfl) (hn : x ≠ "__name__" := by decide) (hdb : (x == ("__debug__" : Str)) = false := by decide)
    (he : starEach (e :: es) X.env = (false, eval e X.env) :: starEach es X.env := by rfl) (hpl : (backTo pos (starEach es X.env)).any (·.1) = false := by rfl) : DE X (.Call (.Name x p) (e :: es) [] pos) (dCB R t) :=
  ⟨(pe_callB hc hg hm hv ha.p hn hdb he hpl).weak l_CB⟩
theorem de_callTy (hc : CallR X (.type T) (lC X.K R)) (hm : X.mg x = none) (ha : DA X (e :: es) t) (hv : bootBuiltins x = some (.type T) := by decide +kernel) (hg : Gl X x := by rfl) (hn : x ≠ "__name__" := by decide) (hdb : (x == ("__debug__" : Str)) = false := by decide)
    (he : starEach (e :: es) X.env = (false, eval e X.env) :: starEach es X.env := by rfl) (hpl : (backTo pos (starEach es X.env)).any (·.1) = false := by rfl) : DE X (.Call (.Name x p) (e :: es) [] pos) (dCB R t) :=
  ⟨(pe_callTy hc hg hm hv ha.p hn hdb he hpl).weak l_CB⟩
/-- a built-in type's method -/
def dTy (T : String) (d : D) (S : Sto) : Prop := match d with
  | .str _ => T = "str"
  | .int _ => T = "int"
  | .ref a => (T = "list" ∧ ∃ ds, S a = some (.list ds)) ∨ (T = "dict" ∧ ∃ ds, S a = some (.dict ds))
  | _ => False
theorem tyD {K : PySem.W.Frag} {H : Hp} {v : V} {d : D} {S : Sto} (dv : Den K H v d) (r : Rel K H S) (h : dTy T d S) : tyV K T v H := by
  cases dv with
  | str z => exact h
  | int i => exact h
  | ref a =>
    rcases h with ⟨h1, ds, h2⟩ | ⟨h1, ds, h2⟩
    · obtain ⟨vs, g0, gd⟩ := r a _ h2
      exact .inl ⟨h1, _, SqL.of g0⟩
    · obtain ⟨vs, g0, gd⟩ := r a _ h2
      exact .inr (.inr (.inl ⟨h1, .inl ⟨vs, g0⟩⟩))
  | _ => exact h.elim
def dBM (T : String) (M : D → List D → Sto → DQ → Prop) (to : DTE) (t : DTA) : DTE := fun ρ S Q => to ρ S fun d S1 => dTy T d S1 ∧ t ρ S1 fun ds S2 => M d ds S2 Q
theorem de_bm (pa : PlainAttrs T) (slot : Slot T name id) (hty : typeOf (.builtin id) = pure (.type "method_descriptor")) (hm : MtR X id (lM X.K M)) (ho : DE X o to) (ha : DA X (e :: es) t)
    (hbase : attributeBase o name X.env (eval o X.env) = eval o X.env := by rfl)
    (hfew : ((backTo cpos (starEach (e :: es) X.env)).all (fun x => !x.1) && (backToKw cpos (keywordEach [] X.env)).all (fun x => x.1.isSome)
      && decide ((e :: es).length + ([] : List Keyword).length + (if ([] : List Keyword).isEmpty then 0 else 1) < 30)) = true := by rfl)
    (hline : (apos.endLine == cpos.line) = true := by rfl) (hs : starEach (e :: es) X.env = (false, eval e X.env) :: starEach es X.env := by rfl) (hplain : (backTo cpos (starEach es X.env)).any (·.1) = false := by rfl) :
    DE X (.Call (.Attribute o name apos) (e :: es) [] cpos) (dBM T M to t) :=
  ⟨(pe_bm pa slot hty hm ho.p ha.p hbase hfew hline hs hplain).weak fun σ H Q ⟨ρ, S, Q0, dn, r, h, k⟩ => ⟨ρ, S, _, dn, r, h, fun d S1 v H1 ⟨ty, q⟩ dv r1 e1 => ⟨tyD dv r1 ty, ρ, S1, _, dn.up e1, r1, q, fun ds S2 vs H2 q2 dvs r2 e2 =>
    ⟨d, ds, S2, Q0, dv.up e2, dvs, r2, q2, fun g S3 w H3 q3 dw r3 e3 => k g S3 w H3 q3 dw r3 ((e1.trans e2).trans e3)⟩⟩⟩⟩
def dBM0 (T : String) (M : D → List D → Sto → DQ → Prop) (to : DTE) : DTE := fun ρ S Q => to ρ S fun d S1 => dTy T d S1 ∧ M d [] S1 Q
theorem de_bm0 (pa : PlainAttrs T) (slot : Slot T name id) (hty : typeOf (.builtin id) = pure (.type "method_descriptor")) (hm : MtR X id (lM X.K M)) (ho : DE X o to)
    (hbase : attributeBase o name X.env (eval o X.env) = eval o X.env := by rfl) (hline : (apos.endLine == cpos.line) = true := by rfl) : DE X (.Call (.Attribute o name apos) [] [] cpos) (dBM0 T M to) :=
  ⟨(pe_bm0 pa slot hty hm ho.p hbase hline).weak fun σ H Q ⟨ρ, S, Q0, dn, r, h, k⟩ => ⟨ρ, S, _, dn, r, h, fun d S1 v H1 ⟨ty, q⟩ dv r1 e1 => ⟨tyD dv r1 ty,
    d, [], S1, Q0, dv, .nil, r1, q, fun g S3 w H3 q3 dw r3 e3 => k g S3 w H3 q3 dw r3 (e1.trans e3)⟩⟩⟩
end
end DL

namespace DL
open PySem L2 PySem.Spec PyProof.Rows

/-! ### == on data -/
mutual
def pyd : D → PyData
  | .non => .none
  | .bl b => .bool b
  | .int i => .int i
  | .str x => .str x
  | .tup ds => .tuple (pydL ds)
  | .ref _ => .none
  | .lit _ => .none
def pydL : List D → List PyData
  | [] => []
  | d :: ds => pyd d :: pydL ds
end
mutual
def noref : D → Bool
  | .ref _ => false
  | .lit _ => false
  | .tup ds => norefL ds
  | _ => true
def norefL : List D → Bool
  | [] => true
  | d :: ds => noref d && norefL ds
end
section
variable {K : PySem.W.Frag} {H : Hp}
mutual
theorem Den.dp : ∀ (d : D) (v : V), noref d = true → Den K H v d → Dp K H v (pyd d)
  | .non, _, _, h => by cases h; exact .non
  | .bl b, _, _, h => by cases h; exact .bl b
  | .int b, _, _, h => by cases h; exact .int b
  | .str b, _, _, h => by cases h; exact .str b
  | .ref a, _, n, h => by simp [noref] at n
  | .lit a, _, n, h => by simp [noref] at n
  | .tup ds, _, n, h => by
    cases h with
    | tup h1 h2 => exact .tup h1 (DenAll.dp ds _ (by simpa [noref] using n) h2)
theorem DenAll.dp : ∀ (ds : List D) (vs : List V), norefL ds = true → DenAll K H vs ds → DpAll K H vs (pydL ds)
  | [], _, _, h => by cases h; exact .nil
  | d :: ds, _, n, h => by
    have n : noref d = true ∧ norefL ds = true := by simpa [norefL] using n
    cases h with
    | cons h1 h2 => exact .cons (Den.dp d _ n.1 h1) (DenAll.dp ds _ n.2 h2)
end
end
/-- a datum that == may be asked of -/
def okD (d : D) : Bool := noref d && SeqAt.shaped (pyd d)
def deq (d e : D) : Bool := PyData.eqv (pyd d) (pyd e)
def oEq : DR2 := fun d e S Q => match d, e with
  | .int i, .int j => Q (.bl (decide (i = j))) S
  | .str x, .str y => Q (.bl (decide (x = y))) S
  | .bl x, .bl y => Q (.bl (decide (x = y))) S
  | d, e => okD d = true ∧ okD e = true ∧ Q (.bl (deq d e)) S
def oNe : DR2 := fun d e S Q => match d, e with
  | .int i, .int j => Q (.bl (!decide (i = j))) S
  | .str x, .str y => Q (.bl (!decide (x = y))) S
  | .bl x, .bl y => Q (.bl (!decide (x = y))) S
  | d, e => okD d = true ∧ okD e = true ∧ Q (.bl (!deq d e)) S
section
variable {X : Cx}
theorem okD_dp {K : PySem.W.Frag} {H : Hp} {v : V} {d : D} (h : Den K H v d) (o : okD d = true) : Dp K H v (pyd d) ∧ SeqAt.shaped (pyd d) = true := by
  have o : noref d = true ∧ SeqAt.shaped (pyd d) = true := by simpa [okD] using o
  exact ⟨Den.dp d v o.1 h, o.2⟩
theorem eq_D (hu : X.A.units + 64 < cLine) : OpR X (compareOp .Eq) (lR2 X.K oEq) := by
  intro pins s σ H x y v u Q I rx ry ⟨d, e, S, Q0, dx, dy, r, h, k⟩
  have gen : okD d = true → okD e = true → Q0 (.bl (deq d e)) S → wpAny (model X.prog X.w) X.A (compareOp .Eq v u) (EP X pins σ Q) X.xe s := fun o1 o2 q =>
    let ⟨a1, a2⟩ := okD_dp dx o1
    let ⟨b1, b2⟩ := okD_dp dy o2
    op_eqD hu pins s σ H x y v u Q I rx ry ⟨_, _, a1, b1, a2, b2, k _ S _ H q (.bl _) r (.refl H)⟩
  have flt : ∀ c : Bool, scal x y = true → decide (x = y) = c → Q0 (.bl c) S → wpAny (model X.prog X.w) X.A (compareOp .Eq v u) (EP X pins σ Q) X.xe s := fun c hs hc q =>
    op_eq pins s σ H x y v u Q I rx ry ⟨hs, by rw [hc]; exact k _ S _ H q (.bl _) r (.refl H)⟩
  cases dx <;> cases dy <;> first
    | exact gen h.1 h.2.1 h.2.2
    | (refine flt _ rfl ?_ h; rw [Bool.eq_iff_iff]; simp)
theorem ne_D (hu : X.A.units + 64 < cLine) : OpR X (compareOp .NotEq) (lR2 X.K oNe) := by
  intro pins s σ H x y v u Q I rx ry ⟨d, e, S, Q0, dx, dy, r, h, k⟩
  have gen : okD d = true → okD e = true → Q0 (.bl (!deq d e)) S → wpAny (model X.prog X.w) X.A (compareOp .NotEq v u) (EP X pins σ Q) X.xe s := fun o1 o2 q =>
    let ⟨a1, a2⟩ := okD_dp dx o1
    let ⟨b1, b2⟩ := okD_dp dy o2
    op_neD hu pins s σ H x y v u Q I rx ry ⟨_, _, a1, b1, a2, b2, k _ S _ H q (.bl _) r (.refl H)⟩
  have flt : ∀ c : Bool, scal x y = true → (!decide (x = y)) = c → Q0 (.bl c) S → wpAny (model X.prog X.w) X.A (compareOp .NotEq v u) (EP X pins σ Q) X.xe s := fun c hs hc q =>
    op_ne pins s σ H x y v u Q I rx ry ⟨hs, by rw [hc]; exact k _ S _ H q (.bl _) r (.refl H)⟩
  cases dx <;> cases dy <;> first
    | exact gen h.1 h.2.1 h.2.2
    | (refine flt _ rfl ?_ h; rw [Bool.eq_iff_iff]; simp)
/-! is None -/
def oIsN : DR2 := fun d e S Q => e = .non ∧ Q (.bl (match d with | .non => true | _ => false)) S
def oNotN : DR2 := fun d e S Q => e = .non ∧ Q (.bl (match d with | .non => false | _ => true)) S
theorem isN_D : OpR X (compareOp .Is) (lR2 X.K oIsN) := by
  intro pins s σ H x y v u Q I rx ry ⟨d, e, S, Q0, dx, dy, r, ⟨e1, q⟩, k⟩
  subst e1
  cases dy
  refine op_isN pins s σ H x _ v u Q I rx ry ⟨rfl, ?_⟩
  have fin := k _ S _ H q (.bl _) r (.refl H)
  cases dx <;> exact fin
theorem notN_D : OpR X (compareOp .IsNot) (lR2 X.K oNotN) := by
  intro pins s σ H x y v u Q I rx ry ⟨d, e, S, Q0, dx, dy, r, ⟨e1, q⟩, k⟩
  subst e1
  cases dy
  refine op_notN pins s σ H x _ v u Q I rx ry ⟨rfl, ?_⟩
  have fin := k _ S _ H q (.bl _) r (.refl H)
  cases dx <;> exact fin

/-! ### arithmetic -/
def oInt (g : Int → Int → D) : DR2 := fun d e S Q => match d, e with
  | .int i, .int j => Q (g i j) S
  | _, _ => False
def oIntC (C : Int → Int → Prop) (g : Int → Int → D) : DR2 := fun d e S Q => match d, e with
  | .int i, .int j => C i j ∧ Q (g i j) S
  | _, _ => False
theorem opInt {f : Value → Value → Sem Value} {g : Int → Int → V} {gD : Int → Int → D} (h : OpR X f (rI0 g)) (hg : ∀ i j K H, Den K H (g i j) (gD i j)) : OpR X f (lR2 X.K (oInt gD)) := by
  intro pins s σ H x y v u Q I rx ry ⟨d, e, S, Q0, dx, dy, r, q, k⟩
  cases dx <;> cases dy <;> first
    | exact q.elim
    | exact h pins s σ H _ _ v u Q I rx ry ⟨_, _, rfl, rfl, k _ S _ H q (hg _ _ _ _) r (.refl H)⟩
theorem opIntC {f : Value → Value → Sem Value} {C : Int → Int → Prop} {g : Int → Int → V} {gD : Int → Int → D} (h : OpR X f (rI C g)) (hg : ∀ i j K H, Den K H (g i j) (gD i j)) : OpR X f (lR2 X.K (oIntC C gD)) := by
  intro pins s σ H x y v u Q I rx ry ⟨d, e, S, Q0, dx, dy, r, q, k⟩
  cases dx <;> cases dy <;> first
    | exact q.elim
    | exact h pins s σ H _ _ v u Q I rx ry ⟨_, _, rfl, rfl, q.1, k _ S _ H q.2 (hg _ _ _ _) r (.refl H)⟩
def oSub : DR2 := oInt fun i j => .int (i - j)
theorem sub_D : OpR X (binaryOp .Sub) (lR2 X.K oSub) := opInt op_sub fun _ _ _ _ => .int _
def oLt : DR2 := oInt fun i j => .bl (decide (i < j))
def oLe : DR2 := oInt fun i j => .bl (decide (i ≤ j))
def oGt : DR2 := oInt fun i j => .bl (decide (j < i))
def oGe : DR2 := oInt fun i j => .bl (decide (j ≤ i))
theorem lt_D : OpR X (compareOp .Lt) (lR2 X.K oLt) := opInt op_lt fun _ _ _ _ => .bl _
theorem le_D : OpR X (compareOp .LtE) (lR2 X.K oLe) := opInt op_le fun _ _ _ _ => .bl _
theorem gt_D : OpR X (compareOp .Gt) (lR2 X.K oGt) := opInt op_gt fun _ _ _ _ => .bl _
theorem ge_D : OpR X (compareOp .GtE) (lR2 X.K oGe) := opInt op_ge fun _ _ _ _ => .bl _
def oDiv : DR2 := oIntC (fun _ j => 0 < j ∧ j < 1073741824) fun i j => .int (i / j)
theorem div_D : OpR X (binaryOp .FloorDiv) (lR2 X.K oDiv) := opIntC op_fdiv fun _ _ _ _ => .int _
def oMod : DR2 := oIntC (fun _ j => 0 < j) fun i j => .int (i % j)
theorem mod_D : OpR X (binaryOp .Mod) (lR2 X.K oMod) := opIntC op_mod fun _ _ _ _ => .int _
def oPow : DR2 := oIntC (fun i j => 0 ≤ j ∧ j ≤ 1000000 ∧ i.natAbs < 2 ^ 64) fun i j => .int (i ^ j.toNat)
theorem pow_D : OpR X (binaryOp .Pow) (lR2 X.K oPow) := opIntC op_pow fun _ _ _ _ => .int _
def oMulI : DR2 := oIntC CMul fun i j => .int (i * j)
theorem mulI_D : OpR X (binaryOp .Mult) (lR2 X.K oMulI) := opIntC op_mul fun _ _ _ _ => .int _
def oNeg : D → Sto → DQ → Prop := fun d S Q => match d with
  | .int i => Q (.int (-i)) S
  | _ => False
theorem neg_D : UnR X (unaryOp .USub) (lR1 X.K oNeg) := by
  intro pins s σ H x v Q I rx ⟨d, S, Q0, dx, r, q, k⟩
  cases dx <;> first
    | exact q.elim
    | exact un_neg pins s σ H _ v Q I rx ⟨_, rfl, k _ S _ H q (.int _) r (.refl H)⟩
def oAdd : DR2 := fun d e S Q => match d, e with
  | .int i, .int j => Q (.int (i + j)) S
  | .str x, .str y => x.length + y.length ≤ sizeLine ∧ Q (.str (x ++ y)) S
  | .tup a, .tup b => a.length + b.length ≤ sizeLine ∧ Q (.tup (a ++ b)) S
  | .ref a, .ref b => ∃ xs ys, S a = some (.list xs) ∧ S b = some (.list ys) ∧ xs.length + ys.length ≤ sizeLine ∧ ∀ p, S p = none → Q (.ref p) (supd S p (.list (xs ++ ys)))
  | _, _ => False
theorem add_D : OpR X (binaryOp .Add) (lR2 X.K oAdd) := by
  intro pins s σ H x y v u Q I rx ry ⟨d, e, S, Q0, dx, dy, r, q, k⟩
  cases dx with
  | int i =>
    cases dy with
    | int j => exact op_add pins s σ H _ _ v u Q I rx ry ⟨_, _, rfl, rfl, k _ S _ H q (.int _) r (.refl H)⟩
    | _ => exact q.elim
  | str i =>
    cases dy with
    | str j => exact op_add_str pins s σ H _ _ v u Q I rx ry ⟨_, _, rfl, rfl, q.1, k _ S _ H q.2 (.str _) r (.refl H)⟩
    | _ => exact q.elim
  | ref a =>
    cases dy with
    | ref b =>
      obtain ⟨xs, ys, ha, hb, hl, q⟩ := q
      obtain ⟨vs, g1, g2⟩ := r a _ ha
      obtain ⟨us, h1, h2⟩ := r b _ hb
      exact op_cat pins s σ H _ _ v u Q I rx ry ⟨_, _, vs, us, rfl, rfl, g1, h1, by rw [g2.len, h2.len]; exact hl, fun p hp =>
        k _ _ _ _ (q p (r.fresh hp)) (.ref p) (r.upd (Ext.new hp) ⟨_, upd_same, (g2.append h2).up (Ext.new hp)⟩) (Ext.new hp)⟩
    | _ => exact q.elim
  | tup h1 h2 =>
    rename_i a vs xs
    cases dy with
    | tup g1 g2 =>
      rename_i b us ys
      obtain ⟨hl, q⟩ := q
      refine op_catA pins s σ H _ _ v u Q I rx ry ⟨a, b, vs, us, rfl, rfl, h1, g1, by rw [h2.len, g2.len]; exact hl, fun e => ?_, fun _ e => ?_, fun _ _ p hp => ?_⟩
      · subst e
        cases h2
        exact k _ S _ H q (.tup g1 g2) r (.refl H)
      · subst e
        cases g2
        rw [List.append_nil] at q
        exact k _ S _ H q (.tup h1 h2) r (.refl H)
      · exact k _ S _ _ q (.tup (.inl (.inl upd_same)) ((h2.append g2).up (Ext.new hp))) (r.new hp) (Ext.new hp)
    | _ => exact q.elim
  | _ => exact q.elim
/-- name += -/
theorem iadd_D : PIp X .Add (lR2 X.K (oInt fun i j => .int (i + j))) := by
  intro pins s σ H x y v u Q I rx ry ⟨d, e, S, Q0, dx, dy, r, q, k⟩
  cases dx <;> cases dy <;> first
    | exact q.elim
    | exact in_add pins s σ H _ _ v u Q I rx ry ⟨_, _, rfl, rfl, k _ S _ H q (.int _) r (.refl H)⟩
theorem inadd_D : InOp X .Add (lR2 X.K (oInt fun i j => .int (i + j))) := by
  intro pins s σ H x y v u Q I rx ry ⟨d, e, S, Q0, dx, dy, r, q, k⟩
  cases dx <;> cases dy <;> first
    | exact q.elim
    | exact in_add pins s σ H _ _ v u Q I rx ry ⟨_, _, rfl, rfl, k _ S _ H q (.int _) r (.refl H)⟩

/-! ### in, not in: flat items of a tuple or list -/
def flatD : D → Bool
  | .non => true
  | .bl _ => true
  | .int _ => true
  | .str _ => true
  | _ => false
def eqF : D → D → Bool
  | .non, .non => true
  | .bl a, .bl b => a == b
  | .bl a, .int b => (if a then 1 else 0) == b
  | .int a, .bl b => a == (if b then 1 else 0)
  | .int a, .int b => a == b
  | .str a, .str b => a == b
  | _, _ => false
def inF (x : D) (xs : List D) : Bool := xs.any fun y => eqF y x
theorem flat_den {K : PySem.W.Frag} {H : Hp} {v : V} {d : D} (h : Den K H v d) (f : flatD d = true) : flatV v = true := by
  cases h <;> first | rfl | exact absurd (show false = true from f) Bool.false_ne_true
theorem eqF_den {K : PySem.W.Frag} {H : Hp} {v u : V} {d e : D} (h : Den K H v d) (g : Den K H u e) (f1 : flatD d = true) (f2 : flatD e = true) : eqV v u = eqF d e := by
  cases h <;> cases g <;> first | rfl | exact absurd (show false = true from f1) Bool.false_ne_true | exact absurd (show false = true from f2) Bool.false_ne_true
theorem inF_den {K : PySem.W.Frag} {H : Hp} {x : V} {d : D} (dx : Den K H x d) (fx : flatD d = true) : ∀ {vs : List V} {ds : List D}, DenAll K H vs ds → ds.all flatD = true → vs.all flatV = true ∧ inV x vs = inF d ds
  | _, _, .nil, _ => ⟨rfl, rfl⟩
  | _, _, .cons h t, f => by
    rw [List.all_cons, Bool.and_eq_true] at f
    obtain ⟨i1, i2⟩ := inF_den dx fx t f.2
    refine ⟨by rw [List.all_cons, flat_den h f.1, i1]; rfl, ?_⟩
    show (eqV _ x || inV x _) = (eqF _ d || inF d _)
    rw [eqF_den h dx f.1 fx, i2]
def oIn (neg : Bool) : DR2 := fun d e S Q => match e with
  | .tup ds => flatD d = true ∧ ds.all flatD = true ∧ Q (.bl (if neg then !inF d ds else inF d ds)) S
  | .ref a => ∃ ds, S a = some (.list ds) ∧ flatD d = true ∧ ds.all flatD = true ∧ Q (.bl (if neg then !inF d ds else inF d ds)) S
  | _ => False
theorem in_core {neg : Bool} {f : Value → Value → Sem Value} (h : OpR X f (rIn X.K neg)) : OpR X f (lR2 X.K (oIn neg)) := by
  intro pins s σ H x y v u Q I rx ry ⟨d, e, S, Q0, dx, dy, r, q, k⟩
  cases dy with
  | tup h1 h2 =>
    obtain ⟨f1, f2, q⟩ := q
    obtain ⟨a1, a2⟩ := inF_den dx f1 h2 f2
    exact h pins s σ H _ _ v u Q I rx ry ⟨_, _, rfl, .inr h1, flat_den dx f1, a1, by rw [a2]; exact k _ S _ H q (.bl _) r (.refl H)⟩
  | ref a =>
    obtain ⟨ds, ha, f1, f2, q⟩ := q
    obtain ⟨vs, g1, g2⟩ := r a _ ha
    obtain ⟨a1, a2⟩ := inF_den dx f1 g2 f2
    exact h pins s σ H _ _ v u Q I rx ry ⟨_, _, rfl, .inl (SqL.of g1), flat_den dx f1, a1, by rw [a2]; exact k _ S _ H q (.bl _) r (.refl H)⟩
  | _ => exact q.elim
theorem in_D : OpR X (compareOp .In) (lR2 X.K (oIn false)) := in_core op_in_seq
theorem notIn_D : OpR X (compareOp .NotIn) (lR2 X.K (oIn true)) := in_core op_notIn_seq
end

/-! ### truth of a value as a test -/
section
variable {X : Cx} {a : Expr} {ta : DTE}
def dTru (ta : DTE) : DTT := fun ρ S Q => ta ρ S fun d S1 => match d with
  | .non => Q false S1
  | .bl b => Q b S1
  | .int i => Q (i != 0) S1
  | .str y => y.length ≤ sizeLine ∧ Q ((y.length : Int) != 0) S1
  | .tup ds => Q (!ds.isEmpty) S1
  | .lit ds => Q (!ds.isEmpty) S1
  | .ref a => (∃ ds, S1 a = some (.list ds) ∧ Q (!ds.isEmpty) S1) ∨ ∃ ds, S1 a = some (.dict ds) ∧ Q (!ds.isEmpty) S1
theorem den_empty {K : PySem.W.Frag} {H : Hp} {vs : List V} {ds : List D} (h : DenAll K H vs ds) : vs.isEmpty = ds.isEmpty := by cases h <;> rfl
theorem kv_empty {κ : Type} {K : PySem.W.Frag} {H : Hp} {vs : List (κ × V)} {ds : List (κ × D)} (h : DenKV K H vs ds) : vs.isEmpty = ds.isEmpty := by cases h <;> rfl
theorem dt_tru (ha : DE X a ta) (he : ∀ whole, isTrue a X.env whole = (do let v ← whole; standAt a.pos; holding [v] (truthy v)) := by intro _; rfl) : DT X a (dTru ta) :=
  ⟨(pt_truth ha.p he).weak fun σ H Q ⟨ρ, S, Q0, dn, r, h, k⟩ => ⟨ρ, S, _, dn, r, h, fun d S1 v H1 q dv r1 e1 => by
    cases dv with
    | non => exact ⟨false, rfl, k _ S1 H1 q r1 e1⟩
    | bl b => exact ⟨b, rfl, k _ S1 H1 q r1 e1⟩
    | int i => exact ⟨_, rfl, k _ S1 H1 q r1 e1⟩
    | str y => exact ⟨_, ⟨q.1, rfl⟩, k _ S1 H1 q.2 r1 e1⟩
    | tup h1 h2 => exact ⟨_, .inr (.inl ⟨_, h1, rfl⟩), by rw [den_empty h2]; exact k _ S1 H1 q r1 e1⟩
    | lit h1 h2 => exact ⟨_, .inl ⟨_, h1.1, rfl⟩, by rw [den_empty h2]; exact k _ S1 H1 q r1 e1⟩
    | ref a =>
      rcases q with ⟨ds, ha, q⟩ | ⟨ds, ha, q⟩
      · obtain ⟨vs, g1, g2⟩ := r1 a _ ha
        exact ⟨_, .inl ⟨_, SqL.of g1, rfl⟩, by rw [den_empty g2]; exact k _ S1 H1 q r1 e1⟩
      · obtain ⟨vs, g1, g2⟩ := r1 a _ ha
        exact ⟨_, .inr (.inr ⟨_, g1, rfl⟩), by rw [kv_empty g2]; exact k _ S1 H1 q r1 e1⟩⟩⟩
end

/-! ### built-ins -/
section
variable {X : Cx}
def oLen : List D → Sto → DQ → Prop := fun ds S Q => match ds with
  | [.tup xs] => Q (.int xs.length) S
  | [.lit xs] => Q (.int xs.length) S
  | [.str x] => x.length ≤ sizeLine ∧ Q (.int x.length) S
  | [.ref a] => (∃ xs, S a = some (.list xs) ∧ Q (.int xs.length) S) ∨ ∃ kvs, S a = some (.dict kvs) ∧ Q (.int kvs.length) S
  | _ => False
end
end DL

namespace DL
open PySem L2 PySem.Spec PyProof.Rows

section
variable {X : Cx}
theorem den1 {K : PySem.W.Frag} {H : Hp} {vs : List V} {d : D} (h : DenAll K H vs [d]) : ∃ v, vs = [v] ∧ Den K H v d := by
  cases h with
  | cons h t => cases t; exact ⟨_, rfl, h⟩
theorem den2 {K : PySem.W.Frag} {H : Hp} {vs : List V} {d e : D} (h : DenAll K H vs [d, e]) : ∃ v u, vs = [v, u] ∧ Den K H v d ∧ Den K H u e := by
  cases h with
  | cons h t =>
    obtain ⟨u, e, h2⟩ := den1 t
    subst e
    exact ⟨_, _, rfl, h, h2⟩
theorem len_D : CallR X (.builtin "len") (lC X.K oLen) := by
  intro pins s σ H xs us Q I rv ⟨ds, S, Q0, dv, r, q, k⟩
  match ds, dv, q with
  | [.tup ys], dv, q =>
    obtain ⟨v, rfl, d1⟩ := den1 dv
    cases d1 with
    | tup h1 h2 => exact call_len_seq pins s σ H _ us Q I rv ⟨_, _, rfl, .inr h1, by rw [h2.len]; exact k _ S _ H q (.int _) r (.refl H)⟩
  | [.lit ys], dv, q =>
    obtain ⟨v, rfl, d1⟩ := den1 dv
    cases d1 with
    | lit h1 h2 => exact call_len_seq pins s σ H _ us Q I rv ⟨_, _, rfl, .inl h1.1, by rw [h2.len]; exact k _ S _ H q (.int _) r (.refl H)⟩
  | [.str x], dv, q =>
    obtain ⟨v, rfl, d1⟩ := den1 dv
    cases d1
    exact call_len_str pins s σ H _ us Q I rv ⟨_, rfl, q.1, k _ S _ H q.2 (.int _) r (.refl H)⟩
  | [.ref a], dv, q =>
    obtain ⟨v, rfl, d1⟩ := den1 dv
    cases d1
    rcases q with ⟨ys, ha, q⟩ | ⟨kvs, ha, q⟩
    · obtain ⟨vs, g1, g2⟩ := r a _ ha
      exact call_len_seq pins s σ H _ us Q I rv ⟨_, _, rfl, .inl (SqL.of g1), by rw [g2.len]; exact k _ S _ H q (.int _) r (.refl H)⟩
    · obtain ⟨vs, g1, g2⟩ := r a _ ha
      exact call_lenD pins s σ H _ us Q I rv ⟨_, _, rfl, g1, by rw [KV.len g2]; exact k _ S _ H q (.int _) r (.refl H)⟩
  | [], _, q => exact q.elim
  | [.non], _, q => exact q.elim
  | [.bl _], _, q => exact q.elim
  | [.int _], _, q => exact q.elim
  | d :: _ :: _, _, q => cases d <;> exact q.elim
def oIntOf : List D → Sto → DQ → Prop := fun ds S Q => match ds with
  | [.int i] => Q (.int i) S
  | [.bl b] => Q (.int (if b then 1 else 0)) S
  | _ => False
theorem int_D : CallR X (.type "int") (lC X.K oIntOf) := by
  intro pins s σ H xs us Q I rv ⟨ds, S, Q0, dv, r, q, k⟩
  match ds, dv, q with
  | [.int i], dv, q =>
    obtain ⟨v, rfl, d1⟩ := den1 dv
    cases d1
    exact call_int1 pins s σ H _ us Q I rv (.inl ⟨_, rfl, k _ S _ H q (.int _) r (.refl H)⟩)
  | [.bl i], dv, q =>
    obtain ⟨v, rfl, d1⟩ := den1 dv
    cases d1
    exact call_int1 pins s σ H _ us Q I rv (.inr ⟨_, rfl, k _ S _ H q (.int _) r (.refl H)⟩)
  | [], _, q => exact q.elim
  | [.non], _, q => exact q.elim
  | [.str _], _, q => exact q.elim
  | [.tup _], _, q => exact q.elim
  | [.ref _], _, q => exact q.elim
  | [.lit _], _, q => exact q.elim
  | d :: _ :: _, _, q => cases d <;> exact q.elim
def oAbs : List D → Sto → DQ → Prop := fun ds S Q => match ds with
  | [.int i] => Q (.int (if i < 0 then -i else i)) S
  | _ => False
theorem abs_D : CallR X (.builtin "abs") (lC X.K oAbs) := by
  intro pins s σ H xs us Q I rv ⟨ds, S, Q0, dv, r, q, k⟩
  match ds, dv, q with
  | [.int i], dv, q =>
    obtain ⟨v, rfl, d1⟩ := den1 dv
    cases d1
    exact call_abs pins s σ H _ us Q I rv ⟨_, rfl, k _ S _ H q (.int _) r (.refl H)⟩
  | [], _, q => exact q.elim
  | [.non], _, q => exact q.elim
  | [.bl _], _, q => exact q.elim
  | [.str _], _, q => exact q.elim
  | [.tup _], _, q => exact q.elim
  | [.ref _], _, q => exact q.elim
  | [.lit _], _, q => exact q.elim
  | d :: _ :: _, _, q => cases d <;> exact q.elim
def oTupOf : List D → Sto → DQ → Prop := fun ds S Q => match ds with
  | [.tup xs] => Q (.tup xs) S
  | [.ref a] => ∃ xs, S a = some (.list xs) ∧ Q (.tup xs) S
  | _ => False
theorem tuple_D : CallR X (.type "tuple") (lC X.K oTupOf) := by
  intro pins s σ H xs us Q I rv ⟨ds, S, Q0, dv, r, q, k⟩
  match ds, dv, q with
  | [.tup ys], dv, q =>
    obtain ⟨v, rfl, d1⟩ := den1 dv
    cases d1 with
    | tup h1 h2 => exact call_tuple_of pins s σ H _ us Q I rv ⟨_, _, rfl, .inr ⟨h1, k _ S _ H q (.tup h1 h2) r (.refl H)⟩⟩
  | [.ref a], dv, q =>
    obtain ⟨v, rfl, d1⟩ := den1 dv
    cases d1
    obtain ⟨ys, ha, q⟩ := q
    obtain ⟨vs, g1, g2⟩ := r a _ ha
    exact call_tuple_of pins s σ H _ us Q I rv ⟨_, _, rfl, .inl ⟨SqL.of g1, fun p hp => k _ S _ _ q (.tup (.inl (.inl upd_same)) (g2.up (Ext.new hp))) (r.new hp) (Ext.new hp)⟩⟩
  | [], _, q => exact q.elim
  | [.non], _, q => exact q.elim
  | [.bl _], _, q => exact q.elim
  | [.str _], _, q => exact q.elim
  | [.int _], _, q => exact q.elim
  | d :: _ :: _, _, q => cases d <;> exact q.elim
def oListOf : List D → Sto → DQ → Prop := fun ds S Q => match ds with
  | [.tup xs] => ∀ p, S p = none → Q (.ref p) (supd S p (.list xs))
  | [.ref a] => ∃ xs, S a = some (.list xs) ∧ ∀ p, S p = none → Q (.ref p) (supd S p (.list xs))
  | _ => False
theorem list_D : CallR X (.type "list") (lC X.K oListOf) := by
  intro pins s σ H xs us Q I rv ⟨ds, S, Q0, dv, r, q, k⟩
  match ds, dv, q with
  | [.tup ys], dv, q =>
    obtain ⟨v, rfl, d1⟩ := den1 dv
    cases d1 with
    | tup h1 h2 => exact call_list_of pins s σ H _ us Q I rv ⟨_, _, rfl, .inr h1, fun p hp => k _ _ _ _ (q p (r.fresh hp)) (.ref p) (r.upd (Ext.new hp) ⟨_, upd_same, h2.up (Ext.new hp)⟩) (Ext.new hp)⟩
  | [.ref a], dv, q =>
    obtain ⟨v, rfl, d1⟩ := den1 dv
    cases d1
    obtain ⟨ys, ha, q⟩ := q
    obtain ⟨vs, g1, g2⟩ := r a _ ha
    exact call_list_of pins s σ H _ us Q I rv ⟨_, _, rfl, .inl (SqL.of g1), fun p hp => k _ _ _ _ (q p (r.fresh hp)) (.ref p) (r.upd (Ext.new hp) ⟨_, upd_same, g2.up (Ext.new hp)⟩) (Ext.new hp)⟩
  | [], _, q => exact q.elim
  | [.non], _, q => exact q.elim
  | [.bl _], _, q => exact q.elim
  | [.str _], _, q => exact q.elim
  | [.int _], _, q => exact q.elim
  | d :: _ :: _, _, q => cases d <;> exact q.elim
/-- isinstance(x, T), T a built-in class by its name -/
def tyN (S : Sto) : D → Option String
  | .non => some "NoneType"
  | .bl _ => some "bool"
  | .int _ => some "int"
  | .str _ => some "str"
  | .tup _ => some "tuple"
  | .lit _ => none
  | .ref a => match S a with | some (.list _) => some "list" | some (.dict _) => some "dict" | _ => none
def dIsi (T : String) (te : DTE) : DTE := fun ρ S Q => te ρ S fun d S1 => ∃ t b, tyN S1 d = some t ∧ kitB t T = some b ∧ Q (.bl b) S1
theorem sqt_ty {K : PySem.W.Frag} {H : Hp} {a : Addr} {xs : List V} (h : SqT K H a xs) : TyX K H (.ref a) (.type "tuple") := by
  rcases h with (h | ⟨o, h⟩) | ⟨o, its, n, h1, h2, _⟩
  · exact .base (.tup h)
  · exact .fTuple h
  · exact .kTuple h1 h2
theorem de_isi {e : Expr} {te : DTE} {T : Str} {Tn : String} {p pos pT : Pos} (hm : X.mg "isinstance" = none) (he : DE X e te) (hmT : X.mg T = none) (hvT : bootBuiltins T = some (.type Tn) := by decide +kernel) (hgT : Gl X T := by rfl) (hnT : T ≠ "__name__" := by decide) (hdT : (T == ("__debug__" : Str)) = false := by decide)
    (hg : Gl X "isinstance" := by rfl) (hs1 : starEach [e, .Name T pT] X.env = (false, eval e X.env) :: starEach [.Name T pT] X.env := by rfl) (hs2 : starEach [.Name T pT] X.env = (false, eval (.Name T pT) X.env) :: starEach [] X.env := by rfl)
    (hpl : (backTo pos (starEach [.Name T pT] X.env)).any (·.1) = false := by rfl) : DE X (.Call (.Name "isinstance" p) [e, .Name T pT] [] pos) (dIsi Tn te) :=
  ⟨(pe_callB call_isi hg hm (by decide +kernel) (pa_cons he.p (pa_cons (pe_bltn (v := .ty Tn) hgT hmT hvT rfl hnT hdT) pa_nil hs2) hs1) (by decide) (by decide) hs1 hpl).weak fun σ H Q ⟨ρ, S, Q0, dn, r, h, k⟩ => ⟨ρ, S, _, dn, r, h, fun d S1 v H1 ⟨t, b, h1, h2, q⟩ dv r1 e1 => by
    refine ⟨v, .ty Tn, .type t, .type Tn, b, rfl, .ty Tn, ?_, kit_ty h2, k _ S1 _ H1 q (.bl _) r1 e1⟩
    cases dv with
    | non => cases h1; exact .base .non
    | bl b => cases h1; exact .base (.bl b)
    | int b => cases h1; exact .base (.int b)
    | str b => cases h1; exact .base (.str b)
    | tup g1 g2 => cases h1; exact sqt_ty g1
    | lit g1 g2 => cases h1
    | ref a =>
      have h1 : (match S1 a with | some (.list _) => some "list" | some (.dict _) => some "dict" | _ => none) = some t := h1
      cases ha : S1 a with
      | none => rw [ha] at h1; cases h1
      | some m =>
        rw [ha] at h1
        cases m with
        | list ds => cases h1; obtain ⟨vs, g1, _⟩ := r1 a _ ha; exact .base (.lst g1)
        | dict ds => cases h1; obtain ⟨vs, g1, _⟩ := r1 a _ ha; exact .base (.dK g1)
        | ins C ds => cases h1⟩⟩

/-! ### sorted -/
theorem den_ints {K : PySem.W.Frag} {H : Hp} : ∀ {vs : List V} {ns : List Int}, DenAll K H vs (ns.map D.int) → vs = ns.map V.int
  | _, [], h => by cases h; rfl
  | _, n :: ns, h => by
    cases h with
    | cons h t => cases h; rw [den_ints t]; rfl
def oSorted : List D → Sto → DQ → Prop := fun ds S Q => match ds with
  | [.ref a] => (∃ ns : List Int, S a = some (.list (ns.map D.int)) ∧ ∀ (ns' : List Int) p, ns'.Perm ns → ns'.Pairwise (· ≤ ·) → S p = none → Q (.ref p) (supd S p (.list (ns'.map D.int)))) ∨
     ∃ (kvs : List (Key × D)) (ns : List Int), S a = some (.dict kvs) ∧ kvs.map (·.1) = ns.map Sum.inl ∧ ∀ (ns' : List Int) p, ns'.Perm ns → ns'.Pairwise (· ≤ ·) → S p = none → Q (.ref p) (supd S p (.list (ns'.map D.int)))
  | _ => False
theorem ints_at : ∀ {us : List Value} {ks : List Int}, us.length = ks.length → (∀ (j : Nat) (v : Value), us[j]? = some v → ∃ (x : Int) (t : Tok), ks[j]? = some x ∧ v = Value.int x t) → IntsAre us ks
  | [], [], _, _ => .nil
  | u :: us, k :: ks, hl, h => by
    obtain ⟨x, t, e1, e2⟩ := h 0 u rfl
    have e1' : k = x := Option.some.inj e1
    subst e1'
    subst e2
    refine .cons _ _ (ints_at (by simpa using hl) fun j v e => ?_)
    obtain ⟨x, t, a, b⟩ := h (j + 1) v (by simpa using e)
    exact ⟨x, t, by simpa using a, b⟩
  | [], _ :: _, hl, _ => by simp at hl
  | _ :: _, [], hl, _ => by simp at hl
/-- sorted(d) of a dict whose keys are ints -/
theorem call_sortedDI (hcalm : X.calm = true) : CallR X (.builtin "sorted") (fun xs H Q => ∃ (a : Addr) (kvs : List (Key × V)) (ks : List Int), xs = [.ref a] ∧ Rd H a (.dK kvs) ∧ kvs.map (·.1) = ks.map Sum.inl ∧
    ∀ (ys : List Int) p, ys.Perm ks → ys.Pairwise (· ≤ ·) → H p = none → Q (.ref p) (upd H p (.lst (ys.map V.int)))) := by
  intro pins s σ H xs us Q I r q
  obtain ⟨a, kvs, ks, ex, hd, hks, q⟩ := q
  subst ex
  obtain ⟨u, eu, rx⟩ := vals1 r
  subst eu
  cases rx
  obtain ⟨z, lo, vs, rel, dd⟩ := dk_rd I.hok hd
  obtain ⟨ep, hat⟩ := dd.dictAt
  have hkeys : vs.map (·.1) = ks.map Sum.inl := rel.keys.symm.trans hks
  have hl : vs.length = ks.length := by
    have e := congrArg List.length hkeys
    rw [List.length_map, List.length_map] at e
    exact e
  have hlk : kvs.length = vs.length := Paired.length rel
  have h16 : vs.length ≤ sizeLine := by rw [← hlk]; exact z
  refine Calls.call_function_entry PyProof.Rows.kind_sorted PyProof.Rows.plain_sorted PyProof.Rows.entry_sorted (PyProof.Rows.args_sorted1 _) ?_
  unfold Builtin.«sorted»
  refine wpAny_bind (m := checkCount "sorted" 1 1 _) (wpAny_pure ?_)
  refine wpAny_bind (PySem.W.kdu_collect (A := X.A.in1) (PySem.W.kdl_dict (knd := mixKind X.prog X.w) (kvs := vs) (ep := ep) lo) (I.ok.hd hcalm) hat h16 fun h' tk acc hk hacc => ?_)
  have hal : acc.toList.length = ks.length := by rw [Array.length_toList, hacc.1, hl]
  have hS : IntsAre acc.toList ks := ints_at hal fun j v e => by
    obtain ⟨k, x, e1, e2⟩ := hacc.2 j v (by rw [← Array.getElem?_toList]; exact e)
    have e3 : (vs.map (·.1))[j]? = some k := by rw [List.getElem?_map, e1]; all_goals rfl
    rw [hkeys, List.getElem?_map] at e3
    cases e4 : ks[j]? with
    | none => rw [e4] at e3; cases e3
    | some y =>
      rw [e4] at e3
      have e5 : Sum.inl y = k := Option.some.inj e3
      subst e5
      obtain ⟨t, ev⟩ := Value.isInt_shape (k := y) (v := v) e2
      exact ⟨y, t, rfl, ev⟩
  have I1 : Inv X pins σ H { s with heap := h', toks := tk } := I.kept hk
  refine wpAny_bind (wpAny_newList ?_ (by rw [hal, ← hl]; exact h16))
  have hoL : (h'.push (seqObj "list" acc.toList.toArray 0)).get? h'.objs.size = some (seqObj "list" acc.toList.toArray 0) := Heap.get?_push_size _ rfl
  show wpAny _ _ _ _ _ { s with heap := h'.push (seqObj "list" acc.toList.toArray 0), toks := tk }
  refine wpAny_bind (wpAny_holding (wpAny_call_entry PyProof.Rows.slot_list_sort ⟨_, hoL, rfl⟩ PyProof.Rows.entry_list_sort
    (SrtO.list_sort_ord SrtO.swo_int (s := { s with heap := h'.push (seqObj "list" acc.toList.toArray 0), toks := tk }) hoL (by rw [hal, ← hl]; exact h16) (fun h2 => SrtO.ints_sortable hS h2) fun out h1 h2 => ⟨_, rfl, ?_⟩)
    (PyProof.Rows.args_list_sort _)))
  obtain ⟨g1, g2, g3⟩ := SrtO.ints_out hS h1 h2
  obtain ⟨e', he'⟩ := PyProof.Rows.sortedHeap_at (vs := acc.toList) (out := out.toArray) hoL
  have hlen : ((out.map SrtO.iv).map V.int).length ≤ sizeLine := by
    rw [List.length_map, g2.length_eq, ← hl]
    exact h16
  refine wpAny_pure ⟨_, rfl, .ref h'.objs.size, upd H h'.objs.size (.lst ((out.map SrtO.iv).map V.int)), I1.laid (t' := tk) (fun b u e => ?_) (Nat.le_refl _)
    (show ObjOk X.prog X.w _ _ _ (.lst ((out.map SrtO.iv).map V.int)) from ⟨hlen, out, e', vals_of_ints g1, he'⟩), rfl, q _ _ g2 g3 (I1.hok.fresh (Nat.le_refl _))⟩
  have hb : b < h'.objs.size := Heap.lt_size e
  rw [PyProof.Rows.sortedHeap_old (Nat.ne_of_lt hb) (by rw [size_push']; exact Nat.lt_succ_of_lt hb)]
  exact Heap.get?_push_of_some _ e
theorem kv_keys {κ : Type} {K : PySem.W.Frag} {H : Hp} {vs : List (κ × V)} {ds : List (κ × D)} (h : DenKV K H vs ds) : vs.map (·.1) = ds.map (·.1) := by
  induction h with
  | nil => rfl
  | cons r _ ih => rw [List.map_cons, List.map_cons, ih, r.1]
theorem sorted_D (hc : X.calm = true) : CallR X (.builtin "sorted") (lC X.K oSorted) := by
  intro pins s σ H xs us Q I rv ⟨ds, S, Q0, dv, r, q, k⟩
  match ds, dv, q with
  | [.ref a], dv, q =>
    obtain ⟨v, rfl, d1⟩ := den1 dv
    cases d1
    rcases q with ⟨ns, ha, q⟩ | ⟨kvs, ns, ha, hk, q⟩
    · obtain ⟨vs, g1, g2⟩ := r a _ ha
      have e := den_ints g2
      subst e
      exact cr_sortedI pins s σ H _ us Q I rv ⟨a, ns, rfl, SqL.of g1, fun ns' p h1 h2 hp => k _ _ _ _ (q ns' p h1 h2 (r.fresh hp)) (.ref p) (r.upd (Ext.new hp) ⟨_, upd_same, denAll_ints ns'⟩) (Ext.new hp)⟩
    · obtain ⟨vs, g1, g2⟩ := r a _ ha
      exact call_sortedDI hc pins s σ H _ us Q I rv ⟨a, vs, ns, rfl, .inl g1, (kv_keys g2).trans hk, fun ns' p h1 h2 hp => k _ _ _ _ (q ns' p h1 h2 (r.fresh hp)) (.ref p) (r.upd (Ext.new hp) ⟨_, upd_same, denAll_ints ns'⟩) (Ext.new hp)⟩
  | [], _, q => exact q.elim
  | [.non], _, q => exact q.elim
  | [.bl _], _, q => exact q.elim
  | [.str _], _, q => exact q.elim
  | [.int _], _, q => exact q.elim
  | [.tup _], _, q => exact q.elim
  | d :: _ :: _, _, q => cases d <;> exact q.elim

/-! ### methods of lists -/
def mAppend : D → List D → Sto → DQ → Prop := fun d ds S Q => ∃ a xs y, d = .ref a ∧ ds = [y] ∧ S a = some (.list xs) ∧ xs.length < sizeLine ∧ Q .non (supd S a (.list (xs ++ [y])))
theorem append_D : MtR X "list.append" (lM X.K mAppend) := by
  intro pins s σ H x vs v us Q I rx rv ⟨d, ds, S, Q0, dx, dv, r, ⟨a, xs, y, e1, e2, ha, hl, q⟩, k⟩
  subst e1 e2
  cases dx
  obtain ⟨w, rfl, dw⟩ := den1 dv
  obtain ⟨ws, g1, g2⟩ := r a _ ha
  have e : Ext H (upd H a (.lst (ws ++ [w]))) := Ext.mut g1 trivial
  exact mt_append pins s σ H _ _ v us Q I rx rv ⟨a, ws, w, rfl, rfl, g1, by rw [g2.len]; exact hl, k _ _ _ _ q .non (r.upd e ⟨_, upd_same, (g2.append (.cons dw .nil)).up e⟩) e⟩
def mPop : D → List D → Sto → DQ → Prop := fun d ds S Q => ∃ a xs y, d = .ref a ∧ ds = [] ∧ S a = some (.list (xs ++ [y])) ∧ Q y (supd S a (.list xs))
theorem pop_D : MtR X "list.pop" (lM X.K mPop) := by
  intro pins s σ H x vs v us Q I rx rv ⟨d, ds, S, Q0, dx, dv, r, ⟨a, xs, y, e1, e2, ha, q⟩, k⟩
  subst e1 e2
  cases dx
  cases dv
  obtain ⟨ws, g1, g2⟩ := r a _ ha
  have hl := g2.len
  rw [List.length_append, List.length_singleton] at hl
  have gy : (xs ++ [y])[ws.length - 1]? = some y := by
    rw [List.getElem?_append_right (by omega)]
    have : ws.length - 1 - xs.length = 0 := by omega
    rw [this]; rfl
  obtain ⟨wv, hw, dw⟩ := g2.get gy
  have e : Ext H (upd H a (.lst ws.dropLast)) := Ext.mut g1 trivial
  have g3 := g2.dropLast
  rw [List.dropLast_concat] at g3
  exact mt_pop pins s σ H _ _ v us Q I rx rv ⟨a, ws, wv, rfl, rfl, g1, hw, k _ _ _ _ q (dw.up e) (r.upd e ⟨_, upd_same, g3.up e⟩) e⟩
/-- xs.extend(ys), ys a list or a tuple -/
def mExtend : D → List D → Sto → DQ → Prop := fun d ds S Q => ∃ a xs ys, d = .ref a ∧ ((∃ b, ds = [.ref b] ∧ S b = some (.list ys)) ∨ ds = [.tup ys]) ∧ S a = some (.list xs) ∧ xs.length + ys.length ≤ sizeLine ∧ Q .non (supd S a (.list (xs ++ ys)))
theorem list_extend_tup (l : Addr) (items : Array Value) (n : Nat) (b : Addr) (items2 : Array Value) (n2 : Nat) (od : Option Addr) (osl : Array (Option Value)) (hs0 : ¬(!items.isEmpty && Builtin.List.listTooLong (items.size + items2.size)) = true) (hs1 : items.size ≤ sizeLine) (hs2 : items.size + items2.size ≤ sizeLine + 1) :
    Meets (Builtin.«list.extend» ⟨[.ref l, .ref b], []⟩) (fun _ R s => s.heap.get? l = some { cls := .type "list", dict := none, data := .seq items n, slots := #[] } ∧ s.heap.get? b = some { cls := .type "tuple", dict := od, data := .seq items2 n2, slots := osl } ∧ R (.ok (.ret Value.none)) { s with heap := s.heap.update l (Obj.mapSeq fun x => x ++ items2), toks := s.toks }) :=
  .of_wp fun prog w A R s h => by
    obtain ⟨hp, g, d, tk, os⟩ := s; obtain ⟨hl, hb, h⟩ := h; have f1 := PySem.AutoSeq1.idx_int; have f2 := PySem.AutoSeq1.sub_tuple_tuple; have f3 := PySem.AutoSeq1.sub_list_list; have f4 := PySem.AutoSeq1.sub_tuple_list; have f5 := PySem.AutoSeq1.sub_list_tuple;
    have hz' : (items ++ items2).size ≤ sizeLine + 1 := by rw [Array.size_append]; exact hs2
    wp_walk using (wpAny_updateSeq hl rfl (hz := hs1) (_hz' := hz')), PySem.AutoSeq1.wpAny_loadPart' hl, PySem.AutoSeq1.wpAny_loadPart' hb; exact ⟨_, rfl, h⟩
theorem mt_extendT : MtR X "list.extend" (fun x vs H Q => ∃ l b xs zs, x = .ref l ∧ vs = [.ref b] ∧ H l = some (.lst xs) ∧ SqT X.K H b zs ∧ xs.length + zs.length ≤ sizeLine ∧ Q .non (upd H l (.lst (xs ++ zs)))) := by
  intro pins s σ H x vs v us Q I rx rv h
  obtain ⟨l, b, xs, zs, rfl, rfl, hH, hB, hz, q⟩ := h
  cases rx
  obtain ⟨u, rfl, ru⟩ := rv.one
  cases ru
  obtain ⟨z, its, n, r, hl, e⟩ := I.lstM hH
  obtain ⟨its2, r2, ⟨ob, e2, hc2, n2, hd2⟩, z2⟩ := I.tuple hB
  have hl2 := r2.length
  have hsz : its.toArray.size + its2.toArray.size ≤ sizeLine := by rw [List.size_toArray, List.size_toArray]; omega
  have hlong : ¬ (!its.toArray.isEmpty && Builtin.List.listTooLong (its.toArray.size + its2.toArray.size)) = true := by
    rw [notLongL hsz, Bool.and_false]
    exact Bool.false_ne_true
  obtain ⟨oc, od, odt, osl⟩ := ob
  cases hc2
  cases hd2
  refine call_meets F.slot_list_extend ⟨_, e, rfl⟩ F.entry_list_extend (F.args_list_extend_2 _ _)
    (list_extend_tup l its.toArray n b its2.toArray n2 od osl hlong (by rw [List.size_toArray]; omega) (by omega)) ⟨e, e2, ?_⟩
  refine ⟨.non, _, I.lset (its' := its ++ its2) hH e (by simp) (r.append r2) ?_, rfl, q⟩
  rw [List.length_append]
  omega
theorem extend_D : MtR X "list.extend" (lM X.K mExtend) := by
  intro pins s σ H x vs v us Q I rx rv ⟨d, ds, S, Q0, dx, dv, r, ⟨a, xs, ys, e1, e2, ha, hl, q⟩, k⟩
  subst e1
  cases dx
  obtain ⟨ws, g1, g2⟩ := r a _ ha
  rcases e2 with ⟨b, e2, hb⟩ | e2
  · subst e2
    obtain ⟨w, rfl, dw⟩ := den1 dv
    cases dw
    obtain ⟨zs, h1, h2⟩ := r b _ hb
    have e : Ext H (upd H a (.lst (ws ++ zs))) := Ext.mut g1 trivial
    exact mt_extend pins s σ H _ _ v us Q I rx rv ⟨a, b, ws, zs, rfl, rfl, g1, h1, by rw [g2.len, h2.len]; exact hl, k _ _ _ _ q .non (r.upd e ⟨_, upd_same, (g2.append h2).up e⟩) e⟩
  · subst e2
    obtain ⟨w, rfl, dw⟩ := den1 dv
    cases dw with
    | tup h1 h2 =>
      rename_i b zs
      have e : Ext H (upd H a (.lst (ws ++ zs))) := Ext.mut g1 trivial
      exact mt_extendT pins s σ H _ _ v us Q I rx rv ⟨a, b, ws, zs, rfl, rfl, g1, h1, by rw [g2.len, h2.len]; exact hl, k _ _ _ _ q .non (r.upd e ⟨_, upd_same, (g2.append h2).up e⟩) e⟩
end

end DL

namespace DL
open PySem L2 PySem.Spec PyProof.Rows

/-! ### dicts -/
def valD (kvs : List (Key × D)) (k : Key) : Option D := (kvs.find? fun kv => decide (kv.1 = k)).map (·.2)
def putKD (kvs : List (Key × D)) (k : Key) (v : D) : List (Key × D) :=
  if (kvs.any fun kv => decide (kv.1 = k)) = true then kvs.map (fun kv => if kv.1 = k then (kv.1, v) else kv) else kvs ++ [(k, v)]
def dropKD (kvs : List (Key × D)) (k : Key) : List (Key × D) := kvs.filter fun kv => decide (kv.1 ≠ k)
def keyD : D → Option Key
  | .int i => some (.inl i)
  | .str x => some (.inr x)
  | _ => none
section
variable {K : PySem.W.Frag} {H : Hp}
theorem keyD_den {v : V} {d : D} {k : Key} (h : Den K H v d) (e : keyD d = some k) : v = kV k := by
  cases h <;> first | (cases e; rfl) | cases e
theorem KV.valn {k : Key} : ∀ {vs : List (Key × V)} {ds : List (Key × D)}, DenKV K H vs ds → valD ds k = none → valV vs k = none
  | _, _, .nil, _ => rfl
  | (a, v) :: vs, (b, d) :: ds, .cons r t, h => by
    obtain ⟨e, _⟩ := r
    have e : a = b := e
    subst e
    by_cases q : a = k
    · simp [valD, List.find?_cons, q] at h
    · rw [valV_neg q]
      refine KV.valn t ?_
      simpa [valD, List.find?_cons, q] using h
theorem KV.vals {k : Key} {d : D} : ∀ {vs : List (Key × V)} {ds : List (Key × D)}, DenKV K H vs ds → valD ds k = some d → ∃ v, valV vs k = some v ∧ Den K H v d
  | _, _, .nil, h => by cases h
  | (a, v) :: vs, (b, d') :: ds, .cons r t, h => by
    obtain ⟨e, dv⟩ := r
    have e : a = b := e
    subst e
    by_cases q : a = k
    · have h' : d' = d := by simpa [valD, List.find?_cons, q] using h
      subst h'
      exact ⟨v, valV_pos q, dv⟩
    · rw [valV_neg q]
      refine KV.vals t ?_
      simpa [valD, List.find?_cons, q] using h
theorem KV.anyk {k : Key} {vs : List (Key × V)} {ds : List (Key × D)} (h : DenKV K H vs ds) : (vs.any fun kv => decide (kv.1 = k)) = (ds.any fun kv => decide (kv.1 = k)) := by
  induction h with
  | nil => rfl
  | cons r _ ih => rw [List.any_cons, List.any_cons, ih, r.1]
theorem KV.mapk {k : Key} {v : V} {d : D} (dv : Den K H v d) : ∀ {vs : List (Key × V)} {ds : List (Key × D)}, DenKV K H vs ds → DenKV K H (vs.map fun kv => if kv.1 = k then (kv.1, v) else kv) (ds.map fun kv => if kv.1 = k then (kv.1, d) else kv)
  | _, _, .nil => .nil
  | (a, u) :: vs, (b, x) :: ds, .cons r t => by
    obtain ⟨e, du⟩ := r
    have e : a = b := e
    subst e
    rw [List.map_cons, List.map_cons]
    refine .cons ?_ (KV.mapk dv t)
    by_cases q : a = k
    · simp only [q, if_true, true_and]; exact dv
    · simp only [q, if_false, true_and]; exact du
theorem KV.app {vs us : List (Key × V)} {ds es : List (Key × D)} (h : DenKV K H vs ds) (g : DenKV K H us es) : DenKV K H (vs ++ us) (ds ++ es) := by
  induction h with
  | nil => exact g
  | cons r _ ih => exact .cons r ih
theorem KV.put {k : Key} {v : V} {d : D} (dv : Den K H v d) {vs : List (Key × V)} {ds : List (Key × D)} (h : DenKV K H vs ds) : DenKV K H (putK vs k v) (putKD ds k d) := by
  unfold putK putKD
  rw [KV.anyk h]
  split
  · exact KV.mapk dv h
  · exact KV.app h (.cons ⟨rfl, dv⟩ .nil)
theorem KV.drop {k : Key} {vs : List (Key × V)} {ds : List (Key × D)} (h : DenKV K H vs ds) : DenKV K H (dropK vs k) (dropKD ds k) := by
  unfold dropK dropKD
  induction h with
  | nil => exact .nil
  | @cons a b _ _ r _ ih =>
    rw [List.filter_cons, List.filter_cons]
    have e : decide (a.1 ≠ k) = decide (b.1 ≠ k) := by rw [r.1]
    rw [e]
    split
    · exact .cons r ih
    · exact ih
end
section
variable {X : Cx} {o i e value : Expr} {pos pos' tpos : Pos} {td ty tv : DTE}
def dDGet (td ty : DTE) : DTE := fun ρ S Q => td ρ S fun d S1 => ty ρ S1 fun i S2 => ∃ a kvs k v, d = .ref a ∧ S2 a = some (.dict kvs) ∧ keyD i = some k ∧ valD kvs k = some v ∧ Q v S2
theorem de_dget (hu : X.A.units + 1 < cLine) (ho : DE X o td) (hi : DE X i ty) (hs : NoSl i := by exact fun _ _ => rfl) : DE X (.Subscript o i pos) (dDGet td ty) :=
  ⟨(pe_dget hu ho.p hi.p hs).weak fun σ H Q ⟨ρ, S, Q0, dn, r, h, k⟩ => ⟨ρ, S, _, dn, r, h, fun d S1 x H1 q1 dx r1 e1 => ⟨ρ, S1, _, dn.up e1, r1, q1, fun ii S2 y H2 ⟨a, kvs, kk, v, e, ha, hk, hv, q⟩ dy r2 e2 => by
    subst e
    cases dx
    obtain ⟨vs, g1, g2⟩ := r2 a _ ha
    obtain ⟨vv, l1, l2⟩ := KV.vals g2 hv
    have ey := keyD_den dy hk
    subst ey
    exact ⟨a, vv, rfl, by rw [← l1]; exact DGet.k g1, k _ S2 _ H2 q l2 r2 (e1.trans e2)⟩⟩⟩⟩
def dDIn (neg : Bool) (ty td : DTE) : DTE := fun ρ S Q => ty ρ S fun i S1 => td ρ S1 fun d S2 => ∃ a kvs k, d = .ref a ∧ S2 a = some (.dict kvs) ∧ keyD i = some k ∧ Q (.bl (if neg then !(valD kvs k).isSome else (valD kvs k).isSome)) S2
theorem KV.isS {K : PySem.W.Frag} {H : Hp} {k : Key} {vs : List (Key × V)} {ds : List (Key × D)} (h : DenKV K H vs ds) : (valV vs k).isSome = (valD ds k).isSome := by
  cases e : valD ds k with
  | none => rw [KV.valn h e]; rfl
  | some d => obtain ⟨v, h1, _⟩ := KV.vals h e; rw [h1]; rfl
theorem l_din : ∀ σ H Q, lE X.K (dDIn false ty td) σ H Q → tDIn (lE X.K ty) (lE X.K td) σ H Q :=
  fun σ H Q ⟨ρ, S, Q0, dn, r, h, k⟩ => ⟨ρ, S, _, dn, r, h, fun ii S1 y H1 q1 dy r1 e1 => ⟨ρ, S1, _, dn.up e1, r1, q1, fun d S2 x H2 ⟨a, kvs, kk, e, ha, hk, q⟩ dx r2 e2 => by
    subst e
    cases dx
    obtain ⟨vs, g1, g2⟩ := r2 a _ ha
    have ey := keyD_den dy hk
    subst ey
    exact ⟨a, _, rfl, DGet.k g1, by rw [KV.isS g2]; exact k _ S2 _ H2 q (.bl _) r2 (e1.trans e2)⟩⟩⟩
theorem l_dnin : ∀ σ H Q, lE X.K (dDIn true ty td) σ H Q → tDNotIn (lE X.K ty) (lE X.K td) σ H Q :=
  fun σ H Q ⟨ρ, S, Q0, dn, r, h, k⟩ => ⟨ρ, S, _, dn, r, h, fun ii S1 y H1 q1 dy r1 e1 => ⟨ρ, S1, _, dn.up e1, r1, q1, fun d S2 x H2 ⟨a, kvs, kk, e, ha, hk, q⟩ dx r2 e2 => by
    subst e
    cases dx
    obtain ⟨vs, g1, g2⟩ := r2 a _ ha
    have ey := keyD_den dy hk
    subst ey
    exact ⟨a, _, rfl, DGet.k g1, by rw [KV.isS g2]; exact k _ S2 _ H2 q (.bl _) r2 (e1.trans e2)⟩⟩⟩
theorem de_din (hu : X.A.units + 1 < cLine) (hi : DE X i ty) (ho : DE X o td) (hm : behindInMarks .In o = false := by rfl) : DE X (.Compare i [.In] [o] pos) (dDIn false ty td) := ⟨(pe_cmp (pc_din hu hi.p ho.p) hm).weak l_din⟩
theorem de_dnin (hu : X.A.units + 1 < cLine) (hi : DE X i ty) (ho : DE X o td) (hm : behindInMarks .NotIn o = false := by rfl) : DE X (.Compare i [.NotIn] [o] pos) (dDIn true ty td) := ⟨(pe_cmp (pc_dnotin hu hi.p ho.p) hm).weak l_dnin⟩
theorem dt_din (hu : X.A.units + 1 < cLine) (hi : DE X i ty) (ho : DE X o td) (hm : behindInMarks .In o = false := by rfl) : DT X (.Compare i [.In] [o] pos) (dB (dDIn false ty td)) :=
  ⟨(pt_cmp (pc_din hu hi.p ho.p) hm).weak fun σ H Q h => by
    obtain ⟨ρ, S, Q0, dn, r, h, k⟩ := h
    exact l_din σ H _ ⟨ρ, S, _, dn, r, h, fun d S1 x H1 ⟨b, e, q⟩ dx r1 e1 => ⟨b, by subst e; exact dx.blI, k b S1 H1 q r1 e1⟩⟩⟩
theorem dt_dnin (hu : X.A.units + 1 < cLine) (hi : DE X i ty) (ho : DE X o td) (hm : behindInMarks .NotIn o = false := by rfl) : DT X (.Compare i [.NotIn] [o] pos) (dB (dDIn true ty td)) :=
  ⟨(pt_cmp (pc_dnotin hu hi.p ho.p) hm).weak fun σ H Q h => by
    obtain ⟨ρ, S, Q0, dn, r, h, k⟩ := h
    exact l_dnin σ H _ ⟨ρ, S, _, dn, r, h, fun d S1 x H1 ⟨b, e, q⟩ dx r1 e1 => ⟨b, by subst e; exact dx.blI, k b S1 H1 q r1 e1⟩⟩⟩
def sDPutD (td ty tv : DTE) : DTS := fun E ρ S => tv ρ S fun v S1 => td ρ S1 fun d S2 => ty ρ S2 fun i S3 => ∃ a kvs k, d = .ref a ∧ S3 a = some (.dict kvs) ∧ keyD i = some k ∧ kvs.length < sizeLine ∧ E.nx ρ (supd S3 a (.dict (putKD kvs k v)))
theorem ds_dput (hu : X.A.units + 1 < cLine) (ho : DE X o td) (hi : DE X i ty) (hv : DE X value tv) (hs : swapsWith value (some (.Subscript o i pos')) pos.line X.env = pure false := by rfl) : DS X (.Assign [.Subscript o i pos'] value pos) (sDPutD td ty tv) :=
  ⟨(ps_dput hu ho.p hi.p hv.p hs).weak fun E σ H ⟨ρ, S, D0, dn, r, h, fn⟩ => ⟨ρ, S, _, dn, r, h, fun v S1 vv H1 q1 dv r1 e1 => ⟨ρ, S1, _, dn.up e1, r1, q1, fun d S2 x H2 q2 dx r2 e2 => ⟨ρ, S2, _, (dn.up e1).up e2, r2, q2, fun ii S3 y H3 ⟨a, kvs, kk, e, ha, hk, hl, q⟩ dy r3 e3 => by
    subst e
    cases dx
    obtain ⟨vs, g1, g2⟩ := r3 a _ ha
    have ey := keyD_den dy hk
    subst ey
    have e4 : Ext H3 (upd H3 a (.dK (putK vs kk vv))) := Ext.mut g1 trivial
    exact ⟨a, _, rfl, DPut.k g1 (by rw [KV.len g2]; exact hl), fn.nx _ _ _ _ q ((((dn.up e1).up e2).up e3).up e4) (r3.upd e4 ⟨_, upd_same, DenKV.up (KV.put ((dv.up e2).up e3) g2) e4⟩) (((e1.trans e2).trans e3).trans e4)⟩⟩⟩⟩⟩
def sDDelD (td ty : DTE) : DTS := fun E ρ S => td ρ S fun d S1 => ty ρ S1 fun i S2 => ∃ a kvs k, d = .ref a ∧ S2 a = some (.dict kvs) ∧ keyD i = some k ∧ (valD kvs k).isSome = true ∧ E.nx ρ (supd S2 a (.dict (dropKD kvs k)))
theorem ds_ddel (ho : DE X o td) (hi : DE X i ty) : DS X (.Delete [.Subscript o i tpos] pos) (sDDelD td ty) :=
  ⟨(ps_ddel ho.p hi.p).weak fun E σ H ⟨ρ, S, D0, dn, r, h, fn⟩ => ⟨ρ, S, _, dn, r, h, fun d S1 x H1 q1 dx r1 e1 => ⟨ρ, S1, _, dn.up e1, r1, q1, fun ii S2 y H2 ⟨a, kvs, kk, e, ha, hk, hl, q⟩ dy r2 e2 => by
    subst e
    cases dx
    obtain ⟨vs, g1, g2⟩ := r2 a _ ha
    have ey := keyD_den dy hk
    have e4 : Ext H2 (upd H2 a (.dK (dropK vs kk))) := Ext.mut g1 trivial
    exact ⟨a, vs, kk, rfl, g1, ey, by rw [KV.isS g2]; exact hl, fn.nx _ _ _ _ q (((dn.up e1).up e2).up e4) (r2.upd e4 ⟨_, upd_same, DenKV.up (KV.drop g2) e4⟩) ((e1.trans e2).trans e4)⟩⟩⟩⟩
def dDNew : DTE := fun _ S Q => ∀ p, S p = none → Q (.ref p) (supd S p (.dict []))
theorem de_dnew : DE X (.Dict [] [] pos) dDNew := ⟨pe_dnewK.weak fun σ H Q ⟨ρ, S, Q0, dn, r, h, k⟩ p hp => k _ _ _ _ (h p (r.fresh hp)) (.ref p) (r.upd (Ext.new hp) ⟨_, upd_same, .nil⟩) (Ext.new hp)⟩
end

/-! ### what is walked -/
structure DIt where
  items : List D
  ok : Sto → Prop
structure ItD (K : PySem.W.Frag) (H0 : Hp) (J : It) (I : DIt) : Prop where
  go : ∀ i H S, Ext H0 H → Rel K H S → I.ok S → i < I.items.length → J.go i H
  stop : ∀ i H S, Ext H0 H → Rel K H S → I.ok S → I.items.length ≤ i → J.stop i H
  yld : ∀ i H S x H', Ext H0 H → Rel K H S → I.ok S → i < I.items.length → J.yld i H x H' → ∃ d, I.items[i]? = some d ∧ Den K H' x d ∧ Rel K H' S ∧ Ext H H'
abbrev DTI := Rho → Sto → (DIt → Sto → Prop) → Prop
def lI (K : PySem.W.Frag) (T : DTI) : TI := fun σ H R => ∃ ρ S R0, DenO K H σ ρ ∧ Rel K H S ∧ T ρ S R0 ∧ ∀ J I H' S', R0 I S' → ItD K H' J I → Rel K H' S' → Ext H H' → R J H'
structure DI (X : Cx) (tg iter : Expr) (T : DTI) : Prop where
  p : PI X tg iter (lI X.K T)
theorem _root_.L2.PI.weak {X : Cx} {tg e : Expr} {t t' : TI} (h : PI X tg e t) (w : ∀ σ H Q, t' σ H Q → t σ H Q) : PI X tg e t' := ⟨fun pins s σ H Q I q => h.run pins s σ H Q I (w σ H Q q)⟩
section
variable {X : Cx} {tg e : Expr} {te : DTE} {ta : DTA} {p pos : Pos}
theorem itl_D {K : PySem.W.Frag} {H0 : Hp} {a : Addr} {ds : List D} : ItD K H0 (Itl K a) ⟨ds, fun S => S a = some (.list ds)⟩ where
  go := fun i H S e r h hi => by
    obtain ⟨vs, g1, g2⟩ := r a _ h
    obtain ⟨v, h1, _⟩ := g2.get (List.getElem?_eq_getElem hi)
    exact ⟨vs, v, SqL.of g1, h1⟩
  stop := fun i H S e r h hi => by
    obtain ⟨vs, g1, g2⟩ := r a _ h
    exact ⟨vs, SqL.of g1, by rw [g2.len]; exact hi⟩
  yld := fun i H S x H' e r h hi ⟨e1, y⟩ => by
    obtain ⟨vs, g1, g2⟩ := r a _ h
    subst e1
    obtain ⟨d, h1, h2⟩ := g2.get' (y vs (SqL.of g1))
    exact ⟨d, h1, h2, r, .refl _⟩
theorem itt_D {K : PySem.W.Frag} {H0 : Hp} {a : Addr} {vs : List V} {ds : List D} (h0 : SqT K H0 a vs) (g : DenAll K H0 vs ds) : ItD K H0 (Itt K a) ⟨ds, fun _ => True⟩ where
  go := fun i H S e r h hi => by
    obtain ⟨v, h1, _⟩ := g.get (List.getElem?_eq_getElem hi)
    exact ⟨vs, v, e.sqt h0, h1⟩
  stop := fun i H S e r h hi => ⟨vs, e.sqt h0, by rw [g.len]; exact hi⟩
  yld := fun i H S x H' e r h hi ⟨e1, y⟩ => by
    subst e1
    obtain ⟨d, h1, h2⟩ := g.get' (y vs (e.sqt h0))
    exact ⟨d, h1, h2.up e, r, .refl _⟩
def iL (te : DTE) : DTI := fun ρ S R => te ρ S fun d S1 => ∃ a ds, d = .ref a ∧ S1 a = some (.list ds) ∧ R ⟨ds, fun S => S a = some (.list ds)⟩ S1
def iT (te : DTE) : DTI := fun ρ S R => te ρ S fun d S1 => ∃ ds, d = .tup ds ∧ R ⟨ds, fun _ => True⟩ S1
theorem di_list (he : DE X e te) : DI X tg e (iL te) :=
  ⟨(pi_list he.p).weak fun σ H R ⟨ρ, S, R0, dn, r, h, k⟩ => ⟨ρ, S, _, dn, r, h, fun d S1 v H1 ⟨a, ds, e, ha, q⟩ dv r1 e1 => by
    subst e
    cases dv
    obtain ⟨vs, g1, g2⟩ := r1 a _ ha
    exact ⟨a, rfl, ⟨vs, SqL.of g1⟩, k _ _ H1 S1 q itl_D r1 e1⟩⟩⟩
theorem di_tup (he : DE X e te) : DI X tg e (iT te) :=
  ⟨(pi_tup he.p).weak fun σ H R ⟨ρ, S, R0, dn, r, h, k⟩ => ⟨ρ, S, _, dn, r, h, fun d S1 v H1 ⟨ds, e, q⟩ dv r1 e1 => by
    subst e
    cases dv with
    | tup h1 h2 => exact ⟨_, rfl, ⟨_, h1⟩, k _ _ H1 S1 q (itt_D h1 h2) r1 e1⟩⟩⟩
def rngD (lo : Int) (n : Nat) : List D := (List.range n).map fun (i : Nat) => D.int (lo + (i : Int))
theorem rngD_length (lo : Int) (n : Nat) : (rngD lo n).length = n := by simp [rngD]
theorem rngD_get {lo : Int} {n i : Nat} (h : i < n) : (rngD lo n)[i]? = some (.int (lo + i)) := by simp [rngD, h]
theorem itr_D {K : PySem.W.Frag} {H0 : Hp} {lo : Int} {n : Nat} : ItD K H0 (Itr lo n) ⟨rngD lo n, fun _ => True⟩ where
  go := fun i H S e r h hi => by rw [rngD_length] at hi; exact hi
  stop := fun i H S e r h hi => by rw [rngD_length] at hi; exact hi
  yld := fun i H S x H' e r h hi ⟨e1, y⟩ => by
    rw [rngD_length] at hi
    subst e1
    subst y
    exact ⟨_, rngD_get hi, .int _, r, .refl _⟩
def iR1 (ta : DTA) : DTI := fun ρ S R => ta ρ S fun ds S1 => ∃ j, ds = [.int j] ∧ -(2 ^ 62) ≤ j ∧ j < 2 ^ 62 ∧ R ⟨rngD 0 j.toNat, fun _ => True⟩ S1
def iR2 (ta : DTA) : DTI := fun ρ S R => ta ρ S fun ds S1 => ∃ i j, ds = [.int i, .int j] ∧ (-(2 ^ 62) ≤ i ∧ i < 2 ^ 62 ∧ -(2 ^ 62) ≤ j ∧ j < 2 ^ 62) ∧ R ⟨rngD i (j - i).toNat, fun _ => True⟩ S1
theorem di_range1 {a : Expr} (hm : X.mg "range" = none) (ha : DA X [a] ta) (hg : Gl X "range" := by rfl) (hs : starEach [a] X.env = [(false, eval a X.env)] := by rfl) : DI X tg (.Call (.Name "range" p) [a] [] pos) (iR1 ta) :=
  ⟨(pi_range1 hg hm ha.p hs).weak fun σ H R ⟨ρ, S, R0, dn, r, h, k⟩ => ⟨ρ, S, _, dn, r, h, fun ds S1 vs H1 ⟨j, e, b1, b2, q⟩ dv r1 e1 => by
    subst e
    obtain ⟨v, rfl, d1⟩ := den1 dv
    cases d1
    exact ⟨j, rfl, b1, b2, k _ _ H1 S1 q itr_D r1 e1⟩⟩⟩
theorem di_range2 {a b : Expr} (hm : X.mg "range" = none) (ha : DA X [a, b] ta) (hg : Gl X "range" := by rfl) (hs : starEach [a, b] X.env = [(false, eval a X.env), (false, eval b X.env)] := by rfl) (hs2 : starEach [b] X.env = [(false, eval b X.env)] := by rfl) : DI X tg (.Call (.Name "range" p) [a, b] [] pos) (iR2 ta) :=
  ⟨(pi_range2 hg hm ha.p hs hs2).weak fun σ H R ⟨ρ, S, R0, dn, r, h, k⟩ => ⟨ρ, S, _, dn, r, h, fun ds S1 vs H1 ⟨i, j, e, b1, q⟩ dv r1 e1 => by
    subst e
    obtain ⟨v, u, rfl, d1, d2⟩ := den2 dv
    cases d1
    cases d2
    exact ⟨i, j, rfl, b1, k _ _ H1 S1 q itr_D r1 e1⟩⟩⟩
/-- a text, sign by sign -/
def chrD (x : Str) : List D := x.cps.toList.map fun c => D.str ⟨#[c]⟩
theorem its_D {K : PySem.W.Frag} {H0 : Hp} {x : Str} : ItD K H0 (Its x) ⟨chrD x, fun _ => True⟩ where
  go := fun i H S e r h hi => by simpa [chrD, Its] using hi
  stop := fun i H S e r h hi => by simpa [chrD, Its] using hi
  yld := fun i H S v H' e r h hi ⟨e1, c, hc, y⟩ => by
    subst e1
    subst y
    exact ⟨_, by simp [chrD, hc], .str _, r, .refl _⟩
def iS (te : DTE) : DTI := fun ρ S R => te ρ S fun d S1 => ∃ x, d = .str x ∧ R ⟨chrD x, fun _ => True⟩ S1
theorem di_str (he : DE X e te) : DI X tg e (iS te) :=
  ⟨(pi_str he.p).weak fun σ H R ⟨ρ, S, R0, dn, r, h, k⟩ => ⟨ρ, S, _, dn, r, h, fun d S1 v H1 ⟨x, e, q⟩ dv r1 e1 => by
    subst e
    cases dv
    exact ⟨x, rfl, k _ _ H1 S1 q its_D r1 e1⟩⟩⟩
/-- enumerate(list) -/
def enumD (ds : List D) : List D := (List.range ds.length).map fun (i : Nat) => D.tup [.int (i : Int), ds.getD i .non]
theorem enumD_length (ds : List D) : (enumD ds).length = ds.length := by simp [enumD]
theorem enumD_get {ds : List D} {i : Nat} {d : D} (h : ds[i]? = some d) : (enumD ds)[i]? = some (.tup [.int (i : Int), d]) := by
  obtain ⟨h1, h2⟩ := List.getElem?_eq_some_iff.mp h
  simp [enumD, h1, h2]
theorem ite_D {K : PySem.W.Frag} {H0 : Hp} {a : Addr} {ds : List D} : ItD K H0 (Ite K a) ⟨enumD ds, fun S => S a = some (.list ds)⟩ where
  go := fun i H S e r h hi => by
    rw [enumD_length] at hi
    obtain ⟨vs, g1, g2⟩ := r a _ h
    obtain ⟨v, h1, _⟩ := g2.get (List.getElem?_eq_getElem hi)
    exact ⟨vs, v, SqL.of g1, h1⟩
  stop := fun i H S e r h hi => by
    rw [enumD_length] at hi
    obtain ⟨vs, g1, g2⟩ := r a _ h
    exact ⟨vs, SqL.of g1, by rw [g2.len]; exact hi⟩
  yld := fun i H S x H' e r h hi ⟨T, v, e1, hT, e2, y⟩ => by
    obtain ⟨vs, g1, g2⟩ := r a _ h
    subst e1
    subst e2
    obtain ⟨d, h1, h2⟩ := g2.get' (y vs (SqL.of g1))
    exact ⟨_, enumD_get h1, .tup (.inl (.inl upd_same)) (.cons (.int _) (.cons (h2.up (Ext.new hT)) .nil)), r.new hT, Ext.new hT⟩
def iE (ta : DTA) : DTI := fun ρ S R => ta ρ S fun es S1 => ∃ a ds, es = [.ref a] ∧ S1 a = some (.list ds) ∧ R ⟨enumD ds, fun S => S a = some (.list ds)⟩ S1
theorem di_enum {tpos : Pos} {elts : List Expr} {kk : Nat} (hm : X.mg "enumerate" = none) (ha : DA X [e] ta) (hg : Gl X "enumerate" := by rfl) (hs : starEach [e] X.env = [(false, eval e X.env)] := by rfl) : DI X (.Tuple elts kk tpos) (.Call (.Name "enumerate" p) [e] [] pos) (iE ta) :=
  ⟨(pi_enum hg hm ha.p hs).weak fun σ H R ⟨ρ, S, R0, dn, r, h, k⟩ => ⟨ρ, S, _, dn, r, h, fun ds S1 vs H1 ⟨a, xs, e, hx, q⟩ dv r1 e1 => by
    subst e
    obtain ⟨v, rfl, d1⟩ := den1 dv
    cases d1
    obtain ⟨us, g1, g2⟩ := r1 a _ hx
    exact ⟨a, us, rfl, SqL.of g1, k _ _ H1 S1 q ite_D r1 e1⟩⟩⟩
end

/-! ### for -/
section
variable {X : Cx} {tg iter : Expr} {body : List Stmt} {pos : Pos} {ti : DTI} {g : DTG} {tb : DTS}
def dFor (ti : DTI) (g : DTG) (tb : DTS) : DTS := fun E ρ S => ti ρ S fun I S1 => ∃ W : Nat → Rho → Sto → Prop, W 0 ρ S1 ∧ ∀ i ρ S, i ≤ I.items.length → W i ρ S → I.ok S ∧
  (∀ d, I.items[i]? = some d → g d ρ S fun ρ2 S2 => tb { E with nx := W (i + 1), ct := W (i + 1), bk := E.nx } ρ2 S2) ∧ (i = I.items.length → E.nx ρ S)
theorem ds_for (hi : DI X tg iter ti) (hg : DG X tg g) (hb : DSs X body tb) (hp : PassesOwn (model X.prog X.w) X.A X.env X.xe := by exact PassesOwn.never) (hc : X.calm = true := by rfl) (hs : ∀ x, foldedSetIterable iter X.env x = pure x := by intro _; rfl) : DS X (.For tg iter body [] pos) (dFor ti g tb) :=
  ⟨(ps_for hp hc hi.p hg.p hb.p hs).weak fun E σ H ⟨ρ, S, D0, dn, r, h, f⟩ => ⟨ρ, S, _, dn, r, h, fun J I H1 S1 ⟨W, w0, turn⟩ it r1 e1 => by
    refine ⟨fun i m σ' H' => m = I.items.length - i ∧ i ≤ I.items.length ∧ ∃ ρ' S', DenO X.K H' σ' ρ' ∧ Rel X.K H' S' ∧ Ext H1 H' ∧ W i ρ' S', ⟨_, rfl, Nat.zero_le _, ρ, S1, dn.up e1, r1, .refl H1, w0⟩, ?_⟩
    rintro i m σ2 H2 ⟨rfl, hi, ρ2, S2, dn2, r2, e2, w⟩
    obtain ⟨ok, step, fin⟩ := turn i ρ2 S2 hi w
    by_cases hlt : i < I.items.length
    · refine .inr ⟨it.go i H2 S2 e2 r2 ok hlt, fun σ' H' => ∃ ρ' S', DenO X.K H' σ' ρ' ∧ Rel X.K H' S' ∧ Ext H1 H' ∧ W (i + 1) ρ' S', fun σ' H' q => ⟨I.items.length - (i + 1), by omega, rfl, hlt, q⟩, fun x H3 y => ?_⟩
      obtain ⟨d, hd, dx, r3, e3⟩ := it.yld i H2 S2 x H3 e2 r2 ok hlt y
      exact ⟨d, ρ2, S2, _, dx, dn2.up e3, r3, step d hd, fun ρ4 S4 σ4 H4 q4 dn4 r4 e4 => ⟨ρ4, S4, _, dn4, r4, q4,
        ⟨fun ρ5 S5 σ5 H5 q5 dn5 r5 e5 => ⟨ρ5, S5, dn5, r5, ((e2.trans e3).trans e4).trans e5, q5⟩, fun d5 S5 v5 H5 q5 dv5 r5 e5 => f.rt d5 S5 v5 H5 q5 dv5 r5 ((((e1.trans e2).trans e3).trans e4).trans e5),
          fun ρ5 S5 σ5 H5 q5 dn5 r5 e5 => f.nx ρ5 S5 σ5 H5 q5 dn5 r5 ((((e1.trans e2).trans e3).trans e4).trans e5), fun ρ5 S5 σ5 H5 q5 dn5 r5 e5 => ⟨ρ5, S5, dn5, r5, ((e2.trans e3).trans e4).trans e5, q5⟩⟩⟩⟩
    · have e : i = I.items.length := by omega
      exact .inl ⟨it.stop i H2 S2 e2 r2 ok (by omega), f.nx ρ2 S2 σ2 H2 (fin e) dn2 r2 (e1.trans e2)⟩⟩⟩
def dWhile (c : DTT) (tb : DTS) : DTS := fun E ρ S => ∃ W : Nat → Rho → Sto → Prop, (∃ m, W m ρ S) ∧ ∀ m ρ S, W m ρ S →
  c ρ S fun b S1 => if b = true then tb { E with nx := fun ρ' S' => ∃ m', m' < m ∧ W m' ρ' S', ct := fun ρ' S' => ∃ m', m' < m ∧ W m' ρ' S', bk := E.nx } ρ S1 else E.nx ρ S1
theorem ds_while {c : Expr} {tc : DTT} (hc : DT X c tc) (hb : DSs X body tb) (hp : PassesOwn (model X.prog X.w) X.A X.env X.xe := by exact PassesOwn.never) : DS X (.While c body [] pos) (dWhile tc tb) :=
  ⟨(ps_while hp hc.p hb.p).weak fun E σ H ⟨ρ, S, D0, dn, r, ⟨W, ⟨m0, w0⟩, turn⟩, f⟩ => by
    refine ⟨fun m σ' H' => ∃ ρ' S', DenO X.K H' σ' ρ' ∧ Rel X.K H' S' ∧ Ext H H' ∧ W m ρ' S', ⟨m0, ρ, S, dn, r, .refl H, w0⟩, ?_⟩
    rintro m σ2 H2 ⟨ρ2, S2, dn2, r2, e2, w⟩
    refine ⟨ρ2, S2, _, dn2, r2, turn m ρ2 S2 w, fun b S3 H3 q r3 e3 => ?_⟩
    cases b with
    | true =>
      refine ⟨fun σ' H' => ∃ m', m' < m ∧ ∃ ρ' S', DenO X.K H' σ' ρ' ∧ Rel X.K H' S' ∧ Ext H H' ∧ W m' ρ' S', fun σ' H' ⟨m', l, q⟩ => ⟨m', l, q⟩, ρ2, S3, _, dn2.up e3, r3, q,
        ⟨fun ρ5 S5 σ5 H5 ⟨m', l, q5⟩ dn5 r5 e5 => ⟨m', l, ρ5, S5, dn5, r5, (e2.trans e3).trans e5, q5⟩, fun d5 S5 v5 H5 q5 dv5 r5 e5 => f.rt d5 S5 v5 H5 q5 dv5 r5 ((e2.trans e3).trans e5),
          fun ρ5 S5 σ5 H5 q5 dn5 r5 e5 => f.nx ρ5 S5 σ5 H5 q5 dn5 r5 ((e2.trans e3).trans e5), fun ρ5 S5 σ5 H5 ⟨m', l, q5⟩ dn5 r5 e5 => ⟨m', l, ρ5, S5, dn5, r5, (e2.trans e3).trans e5, q5⟩⟩⟩
    | false => exact f.nx ρ2 S3 σ2 H3 q (dn2.up e3) r3 (e2.trans e3)⟩
end

/-! ### comprehensions -/
def lGc (K : PySem.W.Frag) (vs : List Nat) (T : DTG) : TG := fun v σ H Q => ∃ d ρ S Q0, Den K H v d ∧ DenO K H σ ρ ∧ Rel K H S ∧ T d ρ S Q0 ∧ ∀ ρ' S' σ' H', Q0 ρ' S' → DenO K H' σ' ρ' → Rel K H' S' → Ext H H' → wipe σ' vs = wipe σ vs → Q σ' H'
def lGsc (K : PySem.W.Frag) (vs : List Nat) (T : DTGs) : TGs := fun v σ H Q => ∃ d ρ S Q0, DenAll K H v d ∧ DenO K H σ ρ ∧ Rel K H S ∧ T d ρ S Q0 ∧ ∀ ρ' S' σ' H', Q0 ρ' S' → DenO K H' σ' ρ' → Rel K H' S' → Ext H H' → wipe σ' vs = wipe σ vs → Q σ' H'
structure DGC (X : Cx) (vs : List Nat) (tg : Expr) (T : DTG) : Prop where
  p : PG X tg (lGc X.K vs T)
structure DGCs (X : Cx) (vs : List Nat) (tg : List Expr) (T : DTGs) : Prop where
  p : PGs X tg (lGsc X.K vs T)
theorem wipe_set (σ : L2.St) (i : Nat) (x : Option V) : ∀ vs : List Nat, i ∈ vs → wipe (σ.set i x) vs = wipe σ vs
  | [], h => by simp at h
  | v :: vs, h => by
    unfold wipe
    by_cases hv : i ∈ vs
    · rw [wipe_set σ i x vs hv]
    · have e : i = v := by simpa [hv] using h
      subst e
      have aux : ∀ ws : List Nat, i ∉ ws → wipe (σ.set i x) ws = (wipe σ ws).set i x := by
        intro ws
        induction ws with
        | nil => intro _; rfl
        | cons w ws ih =>
          intro hw
          have h1 : i ≠ w := fun e => hw (by simp [e])
          have h2 : i ∉ ws := fun e => hw (by simp [e])
          show (wipe (σ.set i x) ws).set w none = ((wipe σ ws).set w none).set i x
          rw [ih h2, List.set_comm _ _ h1]
      rw [aux vs hv, List.set_set]
section
variable {X : Cx} {vs : List Nat} {pos : Pos} {e : Expr}
theorem dgc_name (i : Nat) {x : Str} (hN : X.N.Nodup) (hi : X.N[i]? = some x := by rfl) (hv : i ∈ vs := by decide) (hx : Loc X.env.scope x := by first | exact Or.inl rfl | exact Or.inr rfl) (hf : X.fn x = true ∨ X.env.scope.names.lookup x = some .local := by first | exact .inl rfl | exact .inr rfl | assumption) : DGC X vs (.Name x pos) (gN i) :=
  ⟨(pg_name (i := i) hN hi hx hf).weak fun v σ H Q ⟨d, ρ, S, Q0, dv, dn, r, h, k⟩ => k _ S _ H h (dn.set dv) r (.refl H) (wipe_set σ i _ vs hv)⟩
theorem dgcs_nil : DGCs X vs [] gsNil := ⟨pgs_nil.weak fun v σ H Q ⟨d, ρ, S, Q0, dv, dn, r, ⟨e, h⟩, k⟩ => by
  subst e; cases dv; exact ⟨rfl, k _ S _ H h dn r (.refl H) rfl⟩⟩
theorem dgcs_cons {es : List Expr} {t : DTG} {u : DTGs} (h1 : DGC X vs e t) (h2 : DGCs X vs es u) (hs : (assignEach (e :: es) X.env).map (·.2) = assign e X.env :: (assignEach es X.env).map (·.2) := by rfl) : DGCs X vs (e :: es) (gsCons t u) :=
  ⟨(pgs_cons h1.p h2.p hs).weak fun v σ H Q ⟨d, ρ, S, Q0, dv, dn, r, ⟨d1, ds, e, h⟩, k⟩ => by
    subst e
    cases dv with
    | cons dv1 dvs =>
      exact ⟨_, _, rfl, d1, ρ, S, _, dv1, dn, r, h, fun ρ1 S1 σ1 H1 q d2 r1 e1 w1 => ⟨ds, ρ1, S1, Q0, dvs.up e1, d2, r1, q, fun ρ2 S2 σ2 H2 q2 d3 r2 e2 w2 => k ρ2 S2 σ2 H2 q2 d3 r2 (e1.trans e2) (w2.trans w1)⟩⟩⟩
theorem dgc_tup {es : List Expr} {k : Nat} {t : DTGs} {n : Nat} (h : DGCs X vs es t) (hc : X.calm = true := by assumption) (hn : (assignEach es X.env).length = n := by rfl) (hst : (assignEach es X.env).findIdx? (·.1) = none := by rfl) : DGC X vs (.Tuple es k pos) (gT n t) :=
  ⟨(pg_tup hc h.p hn hst).weak fun v σ H Q ⟨d, ρ, S, Q0, dv, dn, r, ⟨ds, e, hl, h⟩, k⟩ => by
    subst e
    cases dv with
    | tup h1 h2 => exact ⟨_, _, rfl, h1, by rw [h2.len]; exact hl, ds, ρ, S, Q0, h2, dn, r, h, k⟩⟩
structure DTs (X : Cx) (ifs : List Expr) (T : DTT) : Prop where
  p : PTs X ifs (lT X.K T)
theorem _root_.L2.PTs.weak {e : List Expr} {t t' : TT} (h : PTs X e t) (w : ∀ σ H Q, t' σ H Q → t σ H Q) : PTs X e t' := ⟨fun pins s σ H Q I q => h.run pins s σ H Q I (w σ H Q q)⟩
def dYes : DTT := fun _ S Q => Q true S
theorem dts_nil : DTs X [] dYes := ⟨pts_nil.weak fun σ H Q ⟨ρ, S, Q0, dn, r, h, k⟩ => k true S H h r (.refl H)⟩
theorem dts_one {c : Expr} {t : DTT} (h : DT X c t) : DTs X [c] t := ⟨pts_one h.p⟩
/-- [elt for target in iter if ..] -/
def dLc (ti : DTI) (g : DTG) (tt : DTT) (te : DTE) (vs : List Nat) : DTE := fun ρ S Q => ti ρ S fun I S1 => ∀ p, S1 p = none → ∃ W : Nat → Sto → Prop, W 0 (supd S1 p (.list [])) ∧ ∀ i S, i ≤ I.items.length → W i S → I.ok S ∧
  (∀ d, I.items[i]? = some d → g d (wipeD ρ vs) S fun ρ2 S2 => tt ρ2 S2 fun b S3 => if b = true then te ρ2 S3 fun y S4 => ∃ acc, S4 p = some (.list acc) ∧ acc.length < sizeLine ∧ W (i + 1) (supd S4 p (.list (acc ++ [y]))) else W (i + 1) S3) ∧ (i = I.items.length → Q (.ref p) S)
theorem l_lc {K : PySem.W.Frag} {ti : DTI} {g : DTG} {tt : DTT} {te : DTE} : ∀ σ H Q, lE K (dLc ti g tt te vs) σ H Q → tLc (lI K ti) (lGc K vs g) (lT K tt) (lE K te) vs σ H Q :=
  fun σ H Q ⟨ρ, S, Q0, dn, r, h, k⟩ => ⟨ρ, S, _, dn, r, h, fun J I H1 S1 q it r1 e1 p hp => by
    obtain ⟨W, w0, turn⟩ := q p (r1.fresh hp)
    have en : Ext H1 (upd H1 p (.lst [])) := Ext.new hp
    have rn : Rel K (upd H1 p (.lst [])) (supd S1 p (.list [])) := r1.upd en ⟨[], upd_same, .nil⟩
    refine ⟨fun i m H' => m = I.items.length - i ∧ i ≤ I.items.length ∧ ∃ S', Rel K H' S' ∧ Ext H1 H' ∧ W i S', ⟨_, rfl, Nat.zero_le _, _, rn, en, w0⟩, ?_⟩
    rintro i m H2 ⟨rfl, hi, S2, r2, e2, w⟩
    obtain ⟨ok, step, fin⟩ := turn i S2 hi w
    by_cases hlt : i < I.items.length
    · refine .inr ⟨it.go i H2 S2 e2 r2 ok hlt, fun H' => ∃ S', Rel K H' S' ∧ Ext H1 H' ∧ W (i + 1) S', fun H' q => ⟨I.items.length - (i + 1), by omega, rfl, hlt, q⟩, fun x H3 y => ?_⟩
      obtain ⟨d, hd, dx, r3, e3⟩ := it.yld i H2 S2 x H3 e2 r2 ok hlt y
      have dw : DenO K H3 (wipe σ vs) (wipeD ρ vs) := (dn.up ((e1.trans e2).trans e3)).wipe vs
      refine ⟨d, wipeD ρ vs, S2, _, dx, dw, r3, step d hd, fun ρ4 S4 σ4 H4 q4 dn4 r4 e4 wp => ⟨?_, ρ4, S4, _, dn4, r4, q4, fun b S5 H5 q5 r5 e5 => ?_⟩⟩
      · rw [wp]
        have : ∀ us : List Nat, (∀ u ∈ us, u ∈ vs) → wipe (wipe σ vs) us = wipe σ vs := by
          intro us
          induction us with
          | nil => intro _; rfl
          | cons u us ih =>
            intro hu
            show (wipe (wipe σ vs) us).set u none = wipe σ vs
            rw [ih fun z hz => hu z (List.mem_cons_of_mem _ hz)]
            have hm := hu u List.mem_cons_self
            have idem : ∀ ws : List Nat, u ∈ ws → (wipe σ ws).set u none = wipe σ ws := by
              intro ws
              induction ws with
              | nil => intro h; simp at h
              | cons w ws ih2 =>
                intro h
                show ((wipe σ ws).set w none).set u none = (wipe σ ws).set w none
                by_cases e : u = w
                · subst e; rw [List.set_set]
                · have h' : u ∈ ws := by simpa [e] using h
                  rw [List.set_comm _ _ (Ne.symm e), ih2 h']
            exact idem vs hm
        exact this vs fun u h => h
      · cases b with
        | true => exact ⟨ρ4, S5, _, dn4.up e5, r5, q5, fun yv S6 v6 H6 ⟨acc, ha, hl, q6⟩ dv6 r6 e6 => by
            obtain ⟨us, g1, g2⟩ := r6 p _ ha
            have e7 : Ext H6 (upd H6 p (.lst (us ++ [v6]))) := Ext.mut g1 trivial
            exact ⟨us, g1, by rw [g2.len]; exact hl, supd S6 p (.list (acc ++ [_])), r6.upd e7 ⟨_, upd_same, (g2.append (.cons dv6 .nil)).up e7⟩, ((((e2.trans e3).trans e4).trans e5).trans e6).trans e7, q6⟩⟩
        | false => exact ⟨S5, r5, ((e2.trans e3).trans e4).trans e5, q5⟩
    · have e : i = I.items.length := by omega
      exact .inl ⟨it.stop i H2 S2 e2 r2 ok (by omega), k _ S2 _ H2 (fin e) (.ref p) r2 (e1.trans e2)⟩⟩
variable {elt tg iter : Expr} {ifs : List Expr} {scope : Scope} {own : List (Str × Nat)} {ti : DTI} {g : DTG} {tt : DTT} {te : DTE}
theorem de_lc (hN : X.N.Nodup) (hi : DI X tg iter ti) (ok : BlkOk X.N X.env.scope scope own)
    (hg : ∀ (s : Shared) (H : Hp) (C : Addr) (cl : List (Str × Addr)) (fp : List Addr), DGC (X.blk s H scope (compEnvC scope cl C X.env) fp) (own.map (·.2)) tg g) (ht : ∀ (s : Shared) (H : Hp) (C : Addr) (cl : List (Str × Addr)) (fp : List Addr), DTs (X.blk s H scope (compEnvC scope cl C X.env) fp) ifs tt)
    (he : ∀ (s : Shared) (H : Hp) (C : Addr) (cl : List (Str × Addr)) (fp : List Addr), DE (X.blk s H scope (compEnvC scope cl C X.env) fp) elt te) (hc : X.calm = true := by rfl) (hs : ∀ x, foldedSetIterable iter X.env x = pure x := by intro _; rfl) :
    DE X (.ListComp elt [⟨tg, iter, ifs, 0⟩] scope pos) (dLc ti g tt te (own.map (·.2))) :=
  ⟨(pe_lc hc hN hi.p ok (fun s H C cl fp => (hg s H C cl fp).p) (fun s H C cl fp => (ht s H C cl fp).p) (fun s H C cl fp => (he s H C cl fp).p) hs).weak l_lc⟩
theorem ds_setLc (i : Nat) {y : Str} {py spos : Pos} (hN : X.N.Nodup) (hi : DI X tg iter ti) (ok : BlkOk X.N X.env.scope scope own)
    (hg : ∀ (s : Shared) (H : Hp) (C : Addr) (cl : List (Str × Addr)) (fp : List Addr), DGC (X.blk s H scope (compEnvC scope cl C X.env) fp) (own.map (·.2)) tg g) (ht : ∀ (s : Shared) (H : Hp) (C : Addr) (cl : List (Str × Addr)) (fp : List Addr), DTs (X.blk s H scope (compEnvC scope cl C X.env) fp) ifs tt)
    (he : ∀ (s : Shared) (H : Hp) (C : Addr) (cl : List (Str × Addr)) (fp : List Addr), DE (X.blk s H scope (compEnvC scope cl C X.env) fp) elt te) (hy : X.N[i]? = some y := by rfl) (hyl : X.env.scope.names.lookup y = some .local := by rfl)
    (hsw : swapsWith (.ListComp elt [⟨tg, iter, ifs, 0⟩] scope pos) (some (.Name y py)) spos.line X.env = pure true := by exact sw_true rfl rfl rfl (by decide +kernel)) (hc : X.calm = true := by rfl) (hs : ∀ x, foldedSetIterable iter X.env x = pure x := by intro _; rfl) :
    DS X (.Assign [.Name y py] (.ListComp elt [⟨tg, iter, ifs, 0⟩] scope pos) spos) (dAsg (dLc ti g tt te (own.map (·.2))) (gN i)) :=
  ⟨(ps_setLc (i := i) hc hN hy hyl hsw hi.p ok (fun s H C cl fp => (hg s H C cl fp).p) (fun s H C cl fp => (ht s H C cl fp).p) (fun s H C cl fp => (he s H C cl fp).p) hs).weak fun E σ H ⟨ρ, S, D0, dn, r, h, f⟩ =>
    l_lc σ H _ ⟨ρ, S, _, dn, r, h, fun d S1 v H1 q dv r1 e1 => f.nx _ S1 _ H1 q ((dn.up e1).set dv) r1 e1⟩⟩
end
end DL

namespace PySem
open Sem (wp)
open AutoSeq1 (wpAny_loadPart')
theorem meets_enumerate_newT (l : Addr) (items : Array Value) (n : Nat) (dct : Option Addr) (sl : Array (Option Value)) :
    Meets (Builtin.«enumerate.__new__» ⟨[.type "enumerate", .ref l], []⟩) (fun _ R s => s.heap.get? l = some { cls := .type "tuple", dict := dct, data := .seq items n, slots := sl } ∧
      R (.ok (.ret (.ref (s.heap.push { cls := .type "tuple_iterator", data := .fields #[.ref l, .int 0 0] }).objs.size)))
        { s with heap := (s.heap.push { cls := .type "tuple_iterator", data := .fields #[.ref l, .int 0 0] }).push { cls := .type "enumerate", data := .fields #[.none, .bool false, .ref s.heap.objs.size, rawInt 0, .none, .none] } }) :=
  .of_wp fun prog w A R s h => by
    obtain ⟨hp, g, d, tk, os⟩ := s; obtain ⟨hl, h⟩ := h
    have hsub := sub_enumerate
    have hL : Heap.IsTuple (Shared.heap ⟨hp, g, d, tk, os⟩) l items := ⟨_, hl, rfl, n, rfl⟩
    wp_walk using wpAny_loadPart' hl
    refine wpAny_stack_any fun st => wpAny_pure ?_
    split
    · rename_i c _ _ _ _ _
      cases (c == Value.type "enumerate")
      · wp_walk using wpAny_loadPart' hl, wpAny_pyIter_tuple hL
        exact ⟨_, rfl, h⟩
      · wp_walk using wpAny_loadPart' hl, wpAny_pyIter_tuple hL
        exact ⟨_, rfl, h⟩
    · wp_walk using wpAny_loadPart' hl, wpAny_pyIter_tuple hL
      exact ⟨_, rfl, h⟩
section
variable {prog : Program} {w : World} {A : Around} {E : Value → Shared → Prop} {s : Shared}
theorem call_enumerate_tuple {l : Addr} {items : Array Value} {Q : Value → Shared → Prop} (hL : s.heap.IsTuple l items)
    (h : ∀ h', IsEnum h' (s.heap.objs.size + 1) s.heap.objs.size 0 .none → h'.IsTupleIter s.heap.objs.size l 0 → h'.objs.size = s.heap.objs.size + 2 →
      (∀ b o, s.heap.get? b = some o → h'.get? b = some o) → Q (.ref (s.heap.objs.size + 1)) { s with heap := h' }) :
    wpAny (model prog w) A (call (.type "enumerate") [.ref l]) Q E s := by
  obtain ⟨⟨c, dct, dt, sl⟩, hl, hc, n, hd⟩ := hL
  replace hc : c = .type "tuple" := hc
  replace hd : dt = .seq items n := hd
  subst hc hd
  refine callType_new F.called_enumerate (by decide) (F.typeCall_enumerate_1 _) (F.newCall_enumerate_1 _) (fun obj => F.args_object_init_2 obj _) F.entry_enumerate_new
    (meets_enumerate_newT l items n dct sl) ⟨hl, ?_⟩
  have hz : (s.heap.push { cls := .type "tuple_iterator", data := .fields #[.ref l, .int 0 0] }).objs.size = s.heap.objs.size + 1 := Heap.size_push ..
  show _ ∧ _
  rw [hz]
  have he : IsEnum ((s.heap.push { cls := .type "tuple_iterator", data := .fields #[.ref l, .int 0 0] }).push
      { cls := .type "enumerate", data := .fields #[.none, .bool false, .ref s.heap.objs.size, rawInt 0, .none, .none] }) (s.heap.objs.size + 1) s.heap.objs.size 0 .none := by
    have := Heap.get?_push_size (s.heap.push { cls := .type "tuple_iterator", data := .fields #[.ref l, .int 0 0] })
      (o := { cls := .type "enumerate", data := .fields #[.none, .bool false, .ref s.heap.objs.size, rawInt 0, .none, .none] }) rfl
    rw [hz] at this; exact this
  refine ⟨⟨_, he, rfl⟩, h _ he ⟨_, Heap.get?_push_of_some _ (Heap.get?_push_size _ rfl), rfl, rfl⟩ (by rw [Heap.size_push, hz]) fun b o x => Heap.get?_push_of_some _ (Heap.get?_push_of_some _ x)⟩
end
section
variable {prog : Program} {w : World} {A : Around} {E : Value → Shared → Prop} {s : Shared}
theorem wpAny_pyNext_enum_endT {e it l : Addr} {i : Nat} {items : Array Value} {old : Value} {k : Int} {Q : Option Value → Shared → Prop} (hh : A.handled = none)
    (he : IsEnum s.heap e it k old) (hit : s.heap.IsTupleIter it l i) (hl : s.heap.IsTuple l items) (hx : items[i]? = none)
    (hQ : ∀ h', Heap.ExtBut it s.heap h' → Q none { s with heap := h' }) : wpAny (model prog w) A (pyNext (.ref e)) Q E s := by
  have hT : s.TypeIs (.ref e) "enumerate" := ⟨_, he, rfl⟩
  unfold pyNext
  refine wpAny_bind (wpAny_attempt (wpAny_callSpecial?_slot (name := Str.ofString "__next__") hT F.slot_enumerate_next
    (wpAny_call_entry F.slot_enumerate_next hT F.entry_enumerate_next ?_ (F.args_enumerate_next_1 _))))
  show wpAny _ _ (field (.ref e) 2 >>= _) _ _ _
  refine wpAny_bind (wpAny_field he rfl (x := .ref it) rfl ?_)
  refine wpAny_bind (wpAny_nextOf_tuple_end hh hit hl hx fun h' x he' hx' => ?_)
  obtain ⟨o, ho, hc⟩ := hx'
  refine wpAny_bind (wpAny_isInstance (T := "StopIteration") (b := true) ⟨o, ho, hc⟩ isSubtype_stop ?_)
  exact wpAny_pure (hQ _ he')
end
end PySem
namespace DL
open PySem L2 PySem.Spec PyProof.Rows
/-! ### enumerate(a tuple) -/
def IteT (K : PySem.W.Frag) (a : Addr) : It :=
  ⟨fun i H => ∃ (xs : List V) (x : V), SqT K H a xs ∧ xs[i]? = some x, fun i H v H' => ∃ T x, v = .ref T ∧ H T = none ∧ H' = upd H T (.tup [.int (i : Nat), x]) ∧ ∀ xs, SqT K H a xs → xs[i]? = some x, fun i H => ∃ xs : List V, SqT K H a xs ∧ xs.length ≤ i⟩
theorem tup_apart {h : Heap} {a it : Addr} {i : Nat} {items : Array Value} (p : h.IsTuple a items) (q : h.IsTupleIter it a i) : a ≠ it := fun e => by
  obtain ⟨o, h1, c1, _⟩ := p
  obtain ⟨o2, h2, c2, _⟩ := q
  rw [e, h2] at h1
  cases h1
  rw [show o.cls = Value.type "tuple_iterator" from c2] at c1
  exact absurd (show Value.type "tuple_iterator" = Value.type "tuple" from c1) (by simp)
theorem tup_enum {h : Heap} {a e it : Addr} {k : Int} {old : Value} {items : Array Value} (p : h.IsTuple a items) (q : IsEnum h e it k old) : a ≠ e := fun ee => by
  obtain ⟨o, h1, c1, _⟩ := p
  rw [ee, show h.get? e = _ from q] at h1
  cases h1
  exact absurd (show Value.type "enumerate" = Value.type "tuple" from c1) (by simp)
theorem turn_enumT {P : Program} {w : World} {K : PySem.W.Frag} {elts : List Expr} {kk : Nat} {tpos : Pos} (a e it : Addr) :
    Turn P w K (.Tuple elts kk tpos) (IteT K a) [e, it] e (fun i h => (∃ old, IsEnum h e it ((i : Nat) : Int) old) ∧ h.IsTupleIter it a i ∧ e ≠ it) where
  mem := by simp
  obj := fun i h st b hb => by
    obtain ⟨⟨old, he⟩, ⟨o, ho, hc, hd⟩, _⟩ := st
    have e' : b = e ∨ b = it := by simpa using hb
    rcases e' with z | z
    · rw [z]; exact ⟨_, he, fun v q => nomatch q⟩
    · rw [z]; exact ⟨o, ho, fun v q => by rw [hd] at q; cases q⟩
  keep := fun i h h' st k => let ⟨⟨old, he⟩, hi, hne⟩ := st; ⟨⟨old, k e (by simp) _ he⟩, hi.at fun o q => k it (by simp) o q, hne⟩
  item := by
    intro X hP hw hK hc i pins s σ H E I hf st hg
    subst hP hw hK
    obtain ⟨⟨old, he⟩, hit, hne⟩ := st
    obtain ⟨xs, x, hq, hx⟩ := hg
    obtain ⟨its, rv, p, hz⟩ := I.tuple hq
    obtain ⟨u, hu, ru⟩ := rv.get hx
    have hel : e < s.heap.objs.size := Heap.lt_size he
    have hil : it < s.heap.objs.size := by obtain ⟨_, q, _⟩ := hit; exact Heap.lt_size q
    have hai : a ≠ it := tup_apart p hit
    have hae : a ≠ e := tup_enum p he
    have hlt : i < its.toArray.size := by have := (List.getElem?_eq_some_iff.mp hu).1; simpa using this
    refine wpAny_pyNext_enum_itemD (Draws.tuple (A := X.A.in1) (I.ok.hd hc) it a hai its.toArray) he ⟨hit, p⟩ hlt hne (by simp [hne, Ne.symm hae]) fun x' h' tk hP ho hst' hT hsz hk => ?_
    obtain ⟨hit', p'⟩ := hst'
    have ex : x' = u := by
      have h1 : its.toArray[i]? = some u := by simpa using hu
      rw [h1] at hP
      exact (Option.some.inj hP).symm
    subst ex
    refine ⟨_, rfl, wpAny_letOwnedTupleGo_enum (s := { s with heap := h', toks := tk + 1 }) ho fun h'' he' sb => ?_⟩
    have hT2 : h''.get? s.heap.objs.size = some { cls := .type "tuple", data := .seq #[.int i tk, x'] } := (sb.2 _ (Nat.ne_of_gt hel)).trans hT
    have new : ObjOk X.prog X.w (upd H s.heap.objs.size (.tup [.int (i : Nat), x])) h'' s.heap.objs.size (.tup [.int (i : Nat), x]) :=
      ⟨by show 2 ≤ sizeLine; decide, [.int i tk, x'], .cons ⟨_, rfl⟩ (.cons ru .nil), ⟨_, hT2, rfl, _, rfl⟩⟩
    have I1 : Inv X pins σ (upd H s.heap.objs.size (.tup [.int (i : Nat), x])) { s with heap := h'', toks := tk + 1 } :=
      I.turnedNew (ch := [e, it]) (fun b ob hb q => (sb.2 b (fun z => hb (by simp [z]))).trans (hk b ob (fun z => hb (by simp [z])) (fun z => hb (by simp [z])) q)) hf (Nat.le_refl _) new
    refine ⟨.ref s.heap.objs.size, _, I1, rfl, ⟨_, x, rfl, I.hok.fresh (Nat.le_refl _), rfl, fun ys hy => by rw [I.tuple_inj hy hq]; exact hx⟩, ⟨⟨x', ?_⟩, hit'.at fun o q => (sb.2 it (Ne.symm hne)).trans q, hne⟩, fun b hb => ?_⟩
    · have e1 : ((i + 1 : Nat) : Int) = (i : Int) + 1 := by omega
      rw [e1]; exact he'
    · have hb' : b < s.heap.objs.size := by
        have e' : b = e ∨ b = it := by simpa using hb
        rcases e' with z | z
        · rw [z]; exact hel
        · rw [z]; exact hil
      rw [upd_ne (Nat.ne_of_lt hb')]
      exact (hf b hb).1
  done := by
    intro X hP hw hK hc i pins s σ H E I hf st hg
    subst hP hw hK
    obtain ⟨⟨old, he⟩, hit, hne⟩ := st
    obtain ⟨xs, hq, hx⟩ := hg
    obtain ⟨its, rv, p, hz⟩ := I.tuple hq
    obtain ⟨f0, f1, f2, f3, f4, f5⟩ := hf it (by simp)
    have hl := rv.length
    have hai : a ≠ it := tup_apart p hit
    exact wpAny_pyNext_enum_endT (I.ok.hd hc) he hit p (by simp; omega) fun h' eb => ⟨rfl, I.turned (t' := s.toks) (fun b o hb q => eb b o hb q) f0 f1 f3 f4 f5⟩
  self := fun A i s Q E st h => let ⟨⟨_, he⟩, _⟩ := st; wpAny_pyIter_enum he h
def iEnumT (K : PySem.W.Frag) (ta : TA) : TI := fun σ H R => ta σ H fun vs H1 => ∃ a xs, vs = [.ref a] ∧ SqT K H1 a xs ∧ R (IteT K a) H1
theorem pi_enumT {X : Cx} {e : Expr} {ta : TA} {p pos tpos : Pos} {elts : List Expr} {kk : Nat} (hg : Gl X "enumerate") (hm : X.mg "enumerate" = none) (ha : PA X [e] ta) (hs : starEach [e] X.env = [(false, eval e X.env)] := by rfl) :
    PI X (.Tuple elts kk tpos) (.Call (.Name "enumerate" p) [e] [] pos) (iEnumT X.K ta) := by
  refine ⟨fun pins s σ H R I h => ?_⟩
  refine Call_ (ld_blt I hg hm boot_enumerate (PyProof.Rows.callWith_type1 (thn (ha.run pos pins s σ H _ I h) fun us s1 ⟨vs, H1, I1, r1, q1⟩ => ?_) hs rfl))
  obtain ⟨a, xs, ex, hq, q⟩ := q1
  subst ex
  cases r1 with
  | cons r rr =>
    cases rr
    cases r
    obtain ⟨its, rv, p', hz⟩ := I1.tuple hq
    refine call_enumerate_tuple (show s1.heap.IsTuple a its.toArray from p') fun h' he hit hsz hk => wpAny_pyIter_enum he ?_
    have I2 : Inv X pins σ H1 { s1 with heap := h' } := I1.kept (t' := s1.toks) hk
    refine ⟨s1.heap.objs.size + 1, [s1.heap.objs.size + 1, s1.heap.objs.size], _, _, H1, rfl, I2, turn_enumT a (s1.heap.objs.size + 1) s1.heap.objs.size, ⟨⟨.none, he⟩, hit, Nat.succ_ne_self _⟩, fun b hb => ?_, q⟩
    have e' : b = s1.heap.objs.size + 1 ∨ b = s1.heap.objs.size := by simpa using hb
    have hle : s1.heap.objs.size ≤ b := by
      rcases e' with z | z
      · rw [z]; exact Nat.le_add_right _ _
      · rw [z]; exact Nat.le_refl _
    exact I1.fpOk hle (I1.hok.fresh hle)
section
variable {X : Cx} {tg e : Expr} {te : DTE} {ta : DTA} {p pos : Pos}
theorem iteT_D {K : PySem.W.Frag} {H0 : Hp} {a : Addr} {vs : List V} {ds : List D} (h0 : SqT K H0 a vs) (g : DenAll K H0 vs ds) : ItD K H0 (IteT K a) ⟨enumD ds, fun _ => True⟩ where
  go := fun i H S e r h hi => by
    rw [enumD_length] at hi
    obtain ⟨v, h1, _⟩ := g.get (List.getElem?_eq_getElem hi)
    exact ⟨vs, v, e.sqt h0, h1⟩
  stop := fun i H S e r h hi => ⟨vs, e.sqt h0, by rw [enumD_length] at hi; rw [g.len]; exact hi⟩
  yld := fun i H S x H' e r h hi ⟨T, y, e1, hT, e2, hy⟩ => by
    subst e1 e2
    obtain ⟨d, h1, h2⟩ := g.get' (hy vs (e.sqt h0))
    exact ⟨_, enumD_get h1, .tup (.inl (.inl upd_same)) (.cons (.int _) (.cons ((h2.up e).up (Ext.new hT)) .nil)), r.new hT, Ext.new hT⟩
def iET (ta : DTA) : DTI := fun ρ S R => ta ρ S fun es S1 => ∃ ds, es = [.tup ds] ∧ R ⟨enumD ds, fun _ => True⟩ S1
theorem di_enumT {tpos : Pos} {elts : List Expr} {kk : Nat} (hm : X.mg "enumerate" = none) (ha : DA X [e] ta) (hg : Gl X "enumerate" := by rfl) (hs : starEach [e] X.env = [(false, eval e X.env)] := by rfl) : DI X (.Tuple elts kk tpos) (.Call (.Name "enumerate" p) [e] [] pos) (iET ta) :=
  ⟨(pi_enumT hg hm ha.p hs).weak fun σ H R ⟨ρ, S, R0, dn, r, h, k⟩ => ⟨ρ, S, _, dn, r, h, fun ds S1 vs H1 ⟨xs, e, q⟩ dv r1 e1 => by
    subst e
    obtain ⟨v, rfl, d1⟩ := den1 dv
    cases d1 with
    | tup h1 h2 => exact ⟨_, _, rfl, h1, k _ _ H1 S1 q (iteT_D h1 h2) r1 e1⟩⟩⟩
/-! a list that is never changed -/
theorem itz_D {K : PySem.W.Frag} {H0 : Hp} {a : Addr} {vs : List V} {ds : List D} (h0 : SqZ K H0 a vs) (g : DenAll K H0 vs ds) : ItD K H0 (Itl K a) ⟨ds, fun _ => True⟩ where
  go := fun i H S e r h hi => by
    obtain ⟨v, h1, _⟩ := g.get (List.getElem?_eq_getElem hi)
    exact ⟨vs, v, h0.2 _ e, h1⟩
  stop := fun i H S e r h hi => ⟨vs, h0.2 _ e, by rw [g.len]; exact hi⟩
  yld := fun i H S x H' e r h hi ⟨e1, y⟩ => by
    subst e1
    obtain ⟨d, h1, h2⟩ := g.get' (y vs (h0.2 _ e))
    exact ⟨d, h1, h2.up e, r, .refl _⟩
def iZ (te : DTE) : DTI := fun ρ S R => te ρ S fun d S1 => ∃ ds, d = .lit ds ∧ R ⟨ds, fun _ => True⟩ S1
theorem di_lit (he : DE X e te) : DI X tg e (iZ te) :=
  ⟨(pi_list he.p).weak fun σ H R ⟨ρ, S, R0, dn, r, h, k⟩ => ⟨ρ, S, _, dn, r, h, fun d S1 v H1 ⟨ds, e, q⟩ dv r1 e1 => by
    subst e
    cases dv with
    | lit h1 h2 => exact ⟨_, rfl, ⟨_, h1.1⟩, k _ _ H1 S1 q (itz_D h1 h2) r1 e1⟩⟩⟩
end
/-! ### {k: v for target in iter if ..} -/
def dDc (ti : DTI) (g : DTG) (tt : DTT) (tk tv : DTE) (vs : List Nat) : DTE := fun ρ S Q => ti ρ S fun I S1 => ∀ p, S1 p = none → ∃ W : Nat → Sto → Prop, W 0 (supd S1 p (.dict [])) ∧ ∀ i S, i ≤ I.items.length → W i S → I.ok S ∧
  (∀ d, I.items[i]? = some d → g d (wipeD ρ vs) S fun ρ2 S2 => tt ρ2 S2 fun b S3 => if b = true then tk ρ2 S3 fun x S4 => tv ρ2 S4 fun y S5 => ∃ acc k, S5 p = some (.dict acc) ∧ keyD x = some k ∧ acc.length < sizeLine ∧ W (i + 1) (supd S5 p (.dict (putKD acc k y))) else W (i + 1) S3) ∧ (i = I.items.length → Q (.ref p) S)
theorem wipe_wipe (σ : L2.St) (vs : List Nat) : wipe (wipe σ vs) vs = wipe σ vs := by
  have : ∀ us : List Nat, (∀ u ∈ us, u ∈ vs) → wipe (wipe σ vs) us = wipe σ vs := by
    intro us
    induction us with
    | nil => intro _; rfl
    | cons u us ih =>
      intro hu
      show (wipe (wipe σ vs) us).set u none = wipe σ vs
      rw [ih fun z hz => hu z (List.mem_cons_of_mem _ hz)]
      have hm := hu u List.mem_cons_self
      have idem : ∀ ws : List Nat, u ∈ ws → (wipe σ ws).set u none = wipe σ ws := by
        intro ws
        induction ws with
        | nil => intro h; simp at h
        | cons w ws ih2 =>
          intro h
          show ((wipe σ ws).set w none).set u none = (wipe σ ws).set w none
          by_cases e : u = w
          · subst e; rw [List.set_set]
          · have h' : u ∈ ws := by simpa [e] using h
            rw [List.set_comm _ _ (Ne.symm e), ih2 h']
      exact idem vs hm
  exact this vs fun u h => h
section
variable {X : Cx} {vs : List Nat} {pos : Pos}
theorem l_dc {K : PySem.W.Frag} {ti : DTI} {g : DTG} {tt : DTT} {tk tv : DTE} : ∀ σ H Q, lE K (dDc ti g tt tk tv vs) σ H Q → tDc (lI K ti) (lGc K vs g) (lT K tt) (lE K tk) (lE K tv) vs σ H Q :=
  fun σ H Q ⟨ρ, S, Q0, dn, r, h, k⟩ => ⟨ρ, S, _, dn, r, h, fun J I H1 S1 q it r1 e1 p hp => by
    obtain ⟨W, w0, turn⟩ := q p (r1.fresh hp)
    have en : Ext H1 (upd H1 p (.dK [])) := Ext.new hp
    have rn : Rel K (upd H1 p (.dK [])) (supd S1 p (.dict [])) := r1.upd en ⟨[], upd_same, .nil⟩
    refine ⟨fun i m H' => m = I.items.length - i ∧ i ≤ I.items.length ∧ ∃ S', Rel K H' S' ∧ Ext H1 H' ∧ W i S', ⟨_, rfl, Nat.zero_le _, _, rn, en, w0⟩, ?_⟩
    rintro i m H2 ⟨rfl, hi, S2, r2, e2, w⟩
    obtain ⟨ok, step, fin⟩ := turn i S2 hi w
    by_cases hlt : i < I.items.length
    · refine .inr ⟨it.go i H2 S2 e2 r2 ok hlt, fun H' => ∃ S', Rel K H' S' ∧ Ext H1 H' ∧ W (i + 1) S', fun H' q => ⟨I.items.length - (i + 1), by omega, rfl, hlt, q⟩, fun x H3 y => ?_⟩
      obtain ⟨d, hd, dx, r3, e3⟩ := it.yld i H2 S2 x H3 e2 r2 ok hlt y
      have dw : DenO K H3 (wipe σ vs) (wipeD ρ vs) := (dn.up ((e1.trans e2).trans e3)).wipe vs
      refine ⟨d, wipeD ρ vs, S2, _, dx, dw, r3, step d hd, fun ρ4 S4 σ4 H4 q4 dn4 r4 e4 wp => ⟨by rw [wp, wipe_wipe], ρ4, S4, _, dn4, r4, q4, fun b S5 H5 q5 r5 e5 => ?_⟩⟩
      cases b with
      | true => exact ⟨ρ4, S5, _, dn4.up e5, r5, q5, fun x S6 vx H6 q6 dx6 r6 e6 => ⟨ρ4, S6, _, (dn4.up e5).up e6, r6, q6, fun y S7 vy H7 ⟨acc, kk, ha, hk, hl, q7⟩ dy7 r7 e7 => by
          obtain ⟨us, g1, g2⟩ := r7 p _ ha
          have ek := keyD_den (dx6.up e7) hk
          have e8 : Ext H7 (upd H7 p (.dK (putK us kk vy))) := Ext.mut g1 trivial
          exact ⟨us, kk, ek, g1, by rw [KV.len g2]; exact hl, supd S7 p (.dict (putKD acc kk y)), r7.upd e8 ⟨_, upd_same, DenKV.up (KV.put dy7 g2) e8⟩, (((((e2.trans e3).trans e4).trans e5).trans e6).trans e7).trans e8, q7⟩⟩⟩
      | false => exact ⟨S5, r5, ((e2.trans e3).trans e4).trans e5, q5⟩
    · have e : i = I.items.length := by omega
      exact .inl ⟨it.stop i H2 S2 e2 r2 ok (by omega), k _ S2 _ H2 (fin e) (.ref p) r2 (e1.trans e2)⟩⟩
variable {kx vx tg iter : Expr} {ifs : List Expr} {scope : Scope} {own : List (Str × Nat)} {ti : DTI} {g : DTG} {tt : DTT} {tk tv : DTE}
theorem de_dc (hN : X.N.Nodup) (hi : DI X tg iter ti) (ok : BlkOk X.N X.env.scope scope own)
    (hg : ∀ (s : Shared) (H : Hp) (C : Addr) (cl : List (Str × Addr)) (fp : List Addr), DGC (X.blk s H scope (compEnvC scope cl C X.env) fp) (own.map (·.2)) tg g) (ht : ∀ (s : Shared) (H : Hp) (C : Addr) (cl : List (Str × Addr)) (fp : List Addr), DTs (X.blk s H scope (compEnvC scope cl C X.env) fp) ifs tt)
    (hk : ∀ (s : Shared) (H : Hp) (C : Addr) (cl : List (Str × Addr)) (fp : List Addr), DE (X.blk s H scope (compEnvC scope cl C X.env) fp) kx tk)
    (he : ∀ (s : Shared) (H : Hp) (C : Addr) (cl : List (Str × Addr)) (fp : List Addr), DE (X.blk s H scope (compEnvC scope cl C X.env) fp) vx tv) (hc : X.calm = true := by rfl) (hs : ∀ x, foldedSetIterable iter X.env x = pure x := by intro _; rfl) :
    DE X (.DictComp kx vx [⟨tg, iter, ifs, 0⟩] scope pos) (dDc ti g tt tk tv (own.map (·.2))) :=
  ⟨(pe_dc hc hN hi.p ok (fun s H C cl fp => (hg s H C cl fp).p) (fun s H C cl fp => (ht s H C cl fp).p) (fun s H C cl fp => (hk s H C cl fp).p) (fun s H C cl fp => (he s H C cl fp).p) hs).weak l_dc⟩
end
theorem hu1 {k : Nat} {A : Around} (r : Room k A) : A.units + 1 < cLine := by have := r.units; omega
end DL

namespace DL
open PySem L2 PySem.Spec PyProof.Rows
/-! ### running readings by simp -/
@[simp] theorem ofS_inj (a b : String) : (Str.ofString a = Str.ofString b) ↔ a = b := by
  constructor
  · intro h
    rw [Str.ofString_eq_toList, Str.ofString_eq_toList] at h
    have h1 : (a.toList.map Char.toNat).toArray = (b.toList.map Char.toNat).toArray := congrArg Str.cps h
    have h2 : a.toList.map Char.toNat = b.toList.map Char.toNat := by simpa using h1
    have h3 : a.toList = b.toList := by
      have inj : ∀ xs ys : List Char, xs.map Char.toNat = ys.map Char.toNat → xs = ys := by
        intro xs
        induction xs with
        | nil => intro ys e; cases ys with | nil => rfl | cons _ _ => cases e
        | cons c t ih =>
          intro ys e
          cases ys with
          | nil => cases e
          | cons d u =>
            rw [List.map_cons, List.map_cons, List.cons.injEq] at e
            have hc : c = d := Char.toNat_inj.mp e.1
            rw [hc, ih u e.2]
      exact inj _ _ h2
    exact String.toList_inj.mp h3
  · intro h; rw [h]
theorem atI_n {α : Type} {l : List α} {i : Nat} {x : α} (h : l[i]? = some x) : atI l (i : Int) = some x := by
  have hi := (List.getElem?_eq_some_iff.mp h).1
  unfold atI ixN
  rw [if_pos (by omega), if_pos (by omega)]
  simpa using h
@[simp] theorem atI_z {α : Type} (a : α) (l : List α) : atI (a :: l) 0 = some a := atI_n (i := 0) rfl
@[simp] theorem atI_1 {α : Type} (a b : α) (l : List α) : atI (a :: b :: l) 1 = some b := atI_n (i := 1) rfl
@[simp] theorem atI_2 {α : Type} (a b c : α) (l : List α) : atI (a :: b :: c :: l) 2 = some c := atI_n (i := 2) rfl
@[simp] theorem atI_3 {α : Type} (a b c d : α) (l : List α) : atI (a :: b :: c :: d :: l) 3 = some d := atI_n (i := 3) rfl
@[simp] theorem atI_4 {α : Type} (a b c d e : α) (l : List α) : atI (a :: b :: c :: d :: e :: l) 4 = some e := atI_n (i := 4) rfl
@[simp] theorem atI_5 {α : Type} (a b c d e f : α) (l : List α) : atI (a :: b :: c :: d :: e :: f :: l) 5 = some f := atI_n (i := 5) rfl
@[simp] theorem atI_6 {α : Type} (a b c d e f g : α) (l : List α) : atI (a :: b :: c :: d :: e :: f :: g :: l) 6 = some g := atI_n (i := 6) rfl
theorem atI_i {α : Type} {l : List α} {i : Int} {x : α} (h0 : 0 ≤ i) (h : l[i.toNat]? = some x) : atI l i = some x := by
  have e : i = (i.toNat : Int) := by omega
  rw [e]; exact atI_n h
theorem ixN_i {n : Nat} {i : Int} (h0 : 0 ≤ i) (h1 : i < n) : ixN n i = some i.toNat := by
  unfold ixN
  rw [if_pos h0, if_pos h1]
theorem lk_hd {α : Type} {f : Str} {x : α} {r : List (Str × α)} : ((f, x) :: r).lookup f = some x := by simp [List.lookup]
@[simp] theorem supd_eq {S : Sto} {a : Addr} {m : MO} : supd S a m a = some m := supd_same
@[simp] theorem supd_supd' {S : Sto} {a : Addr} {m n : MO} : supd (supd S a m) a n = supd S a n := supd_supd
/-- what is kept: all but the objects at L -/
def Keep (L : List Addr) (S S' : Sto) : Prop := ∀ a m, S a = some m → a ∉ L → S' a = some m
theorem Keep.refl (L : List Addr) (S : Sto) : Keep L S S := fun _ _ h _ => h
theorem Keep.trans {L : List Addr} {S S1 S2 : Sto} (a : Keep L S S1) (b : Keep L S1 S2) : Keep L S S2 := fun c m h n => b c m (a c m h n) n
theorem Keep.mono {L L' : List Addr} {S S' : Sto} (k : Keep L S S') (h : ∀ a ∈ L, a ∈ L') : Keep L' S S' := fun a m e n => k a m e fun q => n (h a q)
theorem Keep.new {L : List Addr} {S S' : Sto} {p : Addr} {m : MO} (h : S p = none) (k : Keep L S S') (h' : S' p = none) : Keep L S (supd S' p m) := fun b n e q => by
  rw [supd_ne (fun z => by rw [z, h] at e; cases e)]; exact k b n e q
theorem Keep.new1 {L : List Addr} {S : Sto} {p : Addr} {m : MO} (h : S p = none) : Keep L S (supd S p m) := (Keep.refl L S).new h h
theorem Keep.upd {L : List Addr} {S S' : Sto} {p : Addr} {m : MO} (h : p ∈ L) (k : Keep L S S') : Keep L S (supd S' p m) := fun b n e q => by
  rw [supd_ne (fun z => q (by rw [z]; exact h))]; exact k b n e q
theorem Keep.sub {S S' : Sto} (k : Keep [] S S') : Sub S S' := fun a m h => k a m h (by simp)
theorem Sub.keep {S S' : Sto} (k : Sub S S') (L : List Addr) : Keep L S S' := fun a m h _ => k a m h
theorem Keep.nw {L : List Addr} {S S' : Sto} {p : Addr} {m : MO} (h : S p = none) (k : Keep L S S') : Keep L S (supd S' p m) := fun b n e q => by
  rw [supd_ne (fun z => by rw [z, h] at e; cases e)]; exact k b n e q
theorem sno {S : Sto} {a b : Addr} {m : MO} : supd S a m b = none ↔ b ≠ a ∧ S b = none := by
  unfold supd
  by_cases h : b = a
  · rw [if_pos h]; simp [h]
  · rw [if_neg h]; simp [h]
theorem ne_of {S : Sto} {a b : Addr} {m n : MO} (h : S a = some m) (g : S b = some n) (e : m ≠ n) : a ≠ b := fun q => by rw [q, g] at h; cases h; exact e rfl
theorem less_same {Q : DQ} {d : D} {S : Sto} (h : Q d S) : Q.less d S := ⟨S, Sub.refl S, h⟩
end DL

namespace DL
open PySem L2 PySem.Spec PyProof.Rows
/-! sorted: the one answer -/
theorem sorted_uniq : ∀ {xs ys : List Int}, xs.Perm ys → xs.Pairwise (· ≤ ·) → ys.Pairwise (· ≤ ·) → xs = ys
  | [], ys, h, _, _ => (List.nil_perm.mp h).symm
  | x :: xs, [], h, _, _ => by have := h.length_eq; simp at this
  | x :: xs, y :: ys, h, hx, hy => by
    have e : x = y := by
      have h1 : y ∈ x :: xs := h.symm.subset List.mem_cons_self
      have h2 : x ∈ y :: ys := h.subset List.mem_cons_self
      rw [List.pairwise_cons] at hx hy
      rcases List.mem_cons.mp h1 with a | a
      · exact a.symm
      · rcases List.mem_cons.mp h2 with b | b
        · exact b
        · exact Int.le_antisymm (hx.1 y a) (hy.1 x b)
    subst e
    rw [sorted_uniq (List.Perm.cons_inv h) (List.Pairwise.of_cons hx) (List.Pairwise.of_cons hy)]
def sortI (l : List Int) : List Int := l.mergeSort fun a b => decide (a ≤ b)
theorem sortI_perm (l : List Int) : (sortI l).Perm l := List.mergeSort_perm l _
theorem sortI_pw (l : List Int) : (sortI l).Pairwise (· ≤ ·) := by
  have h := List.pairwise_mergeSort (le := fun a b : Int => decide (a ≤ b)) (fun a b c h1 h2 => by simp at *; omega) (fun a b => by simp; omega) l
  exact h.imp fun h => by simpa using h
theorem sortI_eq {xs ys : List Int} (h : xs.Perm ys) (p : xs.Pairwise (· ≤ ·)) : xs = sortI ys := sorted_uniq (h.trans (sortI_perm ys).symm) p (sortI_pw ys)
theorem sortI_len (l : List Int) : (sortI l).length = l.length := (sortI_perm l).length_eq
theorem sortI_mem {l : List Int} {x : Int} : x ∈ sortI l ↔ x ∈ l := (sortI_perm l).mem_iff
/-! ### running readings step by step: one lemma a head -/
section
variable {ρ ρ' : Rho} {S S' : Sto} {Q : DQ} {QB : Bool → Sto → Prop} {QA : List D → Sto → Prop} {QR : Rho → Sto → Prop} {QI : DIt → Sto → Prop} {QO : Option Int → Sto → Prop} {QS : Sto → Prop} {te ta tb tv td ty to : DTE} {t u : DTT} {ts : DTA} {T U : DTS} {nx bk ct : Rho → Sto → Prop} {rt : DQ} {d e f : D} {ds es : List D} {i j : Nat} {x y : Int} {a p : Addr} {K : PySem.W.Frag} {C : Addr} {m : Str} {SP : DSp} {g : DTG} {gs : DTGs}
theorem r_seq (h : T ⟨U ⟨nx, rt, bk, ct⟩, rt, bk, ct⟩ ρ S) : dSeq T U ⟨nx, rt, bk, ct⟩ ρ S := h
theorem r_next (h : nx ρ S) : dNext ⟨nx, rt, bk, ct⟩ ρ S := h
theorem r_break (h : bk ρ S) : dBreak ⟨nx, rt, bk, ct⟩ ρ S := h
theorem r_cont (h : ct ρ S) : dCont ⟨nx, rt, bk, ct⟩ ρ S := h
theorem r_drop (h : te ρ S fun _ S1 => nx ρ S1) : dDrop te ⟨nx, rt, bk, ct⟩ ρ S := h
theorem r_ret (h : te ρ S rt) : dRet te ⟨nx, rt, bk, ct⟩ ρ S := h
theorem r_retN (h : rt .non S) : dRetN ⟨nx, rt, bk, ct⟩ ρ S := h
theorem r_dif (h : t ρ S fun b S1 => if b = true then T ⟨nx, rt, bk, ct⟩ ρ S1 else U ⟨nx, rt, bk, ct⟩ ρ S1) : dIf t T U ⟨nx, rt, bk, ct⟩ ρ S := h
theorem r_asg (h : te ρ S fun d S1 => g d ρ S1 nx) : dAsg te g ⟨nx, rt, bk, ct⟩ ρ S := h
theorem r_par (h : ts ρ S fun ds S1 => ∃ d e, ds = [d, e] ∧ nx (put (put ρ i d) j e) S1) : dPar i j ts ⟨nx, rt, bk, ct⟩ ρ S := h
theorem r_aug {R : DR2} (h0 : slot ρ i = some d) (h : te ρ S fun e S1 => R d e S1 fun g S2 => nx (put ρ i g) S2) : dAug i te R ⟨nx, rt, bk, ct⟩ ρ S := ⟨d, h0, h⟩
theorem r_par2 {P : D → D → Prop} (h : P d e) : ∃ d' e', [d, e] = [d', e'] ∧ P d' e' := ⟨d, e, rfl, h⟩
theorem r_var (h0 : slot ρ i = some d) (h : Q d S) : dVar i ρ S Q := ⟨d, h0, h⟩
theorem r_c (h : Q d S) : dC d ρ S Q := h
theorem r_op {R : DR2} (h : ta ρ S fun d S1 => tb ρ S1 fun e S2 => R d e S2 Q) : dOp R ta tb ρ S Q := h
theorem r_un {R : D → Sto → DQ → Prop} (h : ta ρ S fun d S1 => R d S1 Q) : dUn R ta ρ S Q := h
theorem r_dB (h : te ρ S fun d S1 => ∃ k, d = .bl k ∧ QB k S1) : dB te ρ S QB := h
theorem r_B {b : Bool} {P : Bool → Prop} (h : P b) : ∃ k, D.bl b = .bl k ∧ P k := ⟨b, rfl, h⟩
theorem r_and (h : t ρ S fun c S1 => if c = true then u ρ S1 QB else QB false S1) : dAnd t u ρ S QB := h
theorem r_or (h : t ρ S fun c S1 => if c = true then QB true S1 else u ρ S1 QB) : dOr t u ρ S QB := h
theorem r_not (h : t ρ S fun c S1 => QB (!c) S1) : dNot t ρ S QB := h
theorem r_andV (h : ta ρ S fun d S1 => ∃ c, d = .bl c ∧ if c = true then tb ρ S1 Q else Q (.bl false) S1) : dAndV ta tb ρ S Q := h
theorem r_orV (h : ta ρ S fun d S1 => ∃ c, d = .bl c ∧ if c = true then Q (.bl true) S1 else tb ρ S1 Q) : dOrV ta tb ρ S Q := h
theorem r_ifE (h : t ρ S fun c S1 => if c = true then ta ρ S1 Q else tb ρ S1 Q) : dIfE t ta tb ρ S Q := h
theorem r_nil (h : QA [] S) : dNil ρ S QA := h
theorem r_cons (h : te ρ S fun d S1 => ts ρ S1 fun ds S2 => QA (d :: ds) S2) : dCons te ts ρ S QA := h
theorem r_tup (h : ts ρ S fun ds S1 => ds.length ≤ sizeLine ∧ Q (.tup ds) S1) : dTup ts ρ S Q := h
theorem r_lst (h : ts ρ S fun ds S1 => ds.length ≤ sizeLine ∧ ∀ p, S1 p = none → Q (.ref p) (supd S1 p (.list ds))) : dLst ts ρ S Q := h
theorem r_size {n : Nat} {P : Prop} (h0 : n ≤ 1000) (h : P) : n ≤ sizeLine ∧ P := ⟨Nat.le_trans h0 (by decide), h⟩
theorem r_gN (h : QR (put ρ i d) S) : gN i d ρ S QR := h
theorem r_gsN (h : QR ρ S) : gsNil [] ρ S QR := ⟨rfl, h⟩
theorem r_gsC (h : g d ρ S fun ρ' S' => gs ds ρ' S' QR) : gsCons g gs (d :: ds) ρ S QR := ⟨d, ds, rfl, h⟩
theorem r_gT {n : Nat} (h0 : ds.length = n) (h : gs ds ρ S QR) : gT n gs (.tup ds) ρ S QR := ⟨ds, rfl, h0, h⟩
theorem r_gL {n : Nat} (h1 : S a = some (.list ds)) (h0 : ds.length = n) (h : gs ds ρ S QR) : gL n gs (.ref a) ρ S QR := ⟨a, ds, rfl, h1, h0, h⟩
theorem r_gIx {R : D → D → D → Sto → (Sto → Prop) → Prop} (h : to ρ S fun o S1 => ty ρ S1 fun i S2 => R o i d S2 fun S3 => QR ρ S3) : gIxD to ty R d ρ S QR := h
theorem r_setL (h0 : S a = some (.list ds)) (h1 : ixN ds.length x = some j) (h : QS (supd S a (.list (ds.set j d)))) : oSetL (.ref a) (.int x) d S QS := ⟨a, ds, x, j, rfl, rfl, h0, h1, h⟩
theorem r_dcall (h : ts ρ S fun ds S1 => SP ds S1 Q) : dCall SP ts ρ S Q := h
theorem r_meth (h : to ρ S fun d S1 => ∃ a fs, d = .ref a ∧ S1 a = some (.ins C fs) ∧ fs.lookup m = none ∧ ts ρ S1 fun ds S2 => SP (d :: ds) S2 Q) : dMeth C m SP to ts ρ S Q := h
theorem r_methA {fs : List (Str × D)} {P : Prop} (h0 : S a = some (.ins C fs)) (h1 : fs.lookup m = none) (h : P) : ∃ a' fs', D.ref a = .ref a' ∧ S a' = some (.ins C fs') ∧ fs'.lookup m = none ∧ P := ⟨a, fs, rfl, h0, h1, h⟩
theorem r_make (h : ts ρ S fun ds S1 => ∀ x, S1 x = none → SP (.ref x :: ds) (supd S1 x (.ins C [])) fun d S2 => d = .non ∧ Q (.ref x) S2) : dMake C SP ts ρ S Q := h
theorem r_dfld (h : te ρ S fun d S1 => ∃ a C fs v, d = .ref a ∧ S1 a = some (.ins C fs) ∧ ClsF K C m ∧ fs.lookup m = some v ∧ Q v S1) : dFld K te m ρ S Q := h
theorem r_fld {fs : List (Str × D)} {P : D → Prop} (h0 : S a = some (.ins C fs)) (h1 : ClsF K C m) (h2 : fs.lookup m = some d) (h : P d) : ∃ a' C' fs' v, D.ref a = .ref a' ∧ S a' = some (.ins C' fs') ∧ ClsF K C' m ∧ fs'.lookup m = some v ∧ P v := ⟨a, C, fs, d, rfl, h0, h1, h2, h⟩
theorem r_sfld (h : tv ρ S fun dv S1 => te ρ S1 fun d S2 => ∃ a C fs, d = .ref a ∧ S2 a = some (.ins C fs) ∧ ClsF K C m ∧ fs.length < 1000 ∧ nx ρ (supd S2 a (.ins C (putD m dv fs)))) : sFldD K te tv m ⟨nx, rt, bk, ct⟩ ρ S := h
theorem r_sfldA {fs fs2 : List (Str × D)} {P : Sto → Prop} (h0 : S a = some (.ins C fs)) (h1 : ClsF K C m) (h2 : fs.length < 1000) (h3 : putD m d fs = fs2) (h : P (supd S a (.ins C fs2))) : ∃ a' C' fs', D.ref a = .ref a' ∧ S a' = some (.ins C' fs') ∧ ClsF K C' m ∧ fs'.length < 1000 ∧ P (supd S a' (.ins C' (putD m d fs'))) := ⟨a, C, fs, rfl, h0, h1, h2, by rw [h3]; exact h⟩
theorem r_saug {R : DR2} (h : te ρ S fun d S1 => ∃ a C fs v, d = .ref a ∧ S1 a = some (.ins C fs) ∧ ClsF K C m ∧ fs.lookup m = some v ∧
  tv ρ S1 fun dv S2 => R v dv S2 fun z S3 => ∃ fs', S3 a = some (.ins C fs') ∧ fs'.length < 1000 ∧ nx ρ (supd S3 a (.ins C (putD m z fs')))) : sAugD K te tv R m ⟨nx, rt, bk, ct⟩ ρ S := h
theorem r_saugA {fs fs2 : List (Str × D)} {P : Sto → Prop} (h0 : S a = some (.ins C fs)) (h2 : fs.length < 1000) (h3 : putD m d fs = fs2) (h : P (supd S a (.ins C fs2))) : ∃ fs', S a = some (.ins C fs') ∧ fs'.length < 1000 ∧ P (supd S a (.ins C (putD m d fs'))) := ⟨fs, h0, h2, by rw [h3]; exact h⟩
theorem r_saugB {fs : List (Str × D)} {P : Addr → Addr → D → Prop} (h0 : S a = some (.ins C fs)) (h1 : ClsF K C m) (h2 : fs.lookup m = some d) (h : P a C d) : ∃ a' C' fs' v, D.ref a = .ref a' ∧ S a' = some (.ins C' fs') ∧ ClsF K C' m ∧ fs'.lookup m = some v ∧ P a' C' v := ⟨a, C, fs, d, rfl, h0, h1, h2, h⟩
theorem r_ixT (h0 : atI ds x = some d) (h : Q d S) : oIx (.tup ds) (.int x) S Q := ⟨d, h0, h⟩
theorem r_ixZ (h0 : atI ds x = some d) (h : Q d S) : oIx (.lit ds) (.int x) S Q := ⟨d, h0, h⟩
theorem r_ixL (h1 : S a = some (.list ds)) (h0 : atI ds x = some d) (h : Q d S) : oIx (.ref a) (.int x) S Q := ⟨ds, d, h1, h0, h⟩
theorem r_noP (h : QO none S) : dNoP ρ S QO := h
theorem r_part (h : te ρ S fun d S1 => ∃ i, d = .int i ∧ QO (some i) S1) : dPart te ρ S QO := h
theorem r_int {P : Int → Prop} (h : P x) : ∃ i, D.int x = .int i ∧ P i := ⟨x, rfl, h⟩
theorem r_sl {tl th : DTO} (h : te ρ S fun d S1 => tl ρ S1 fun l S2 => th ρ S2 fun u S3 => oSl d l u S3 Q) : dSl te tl th ρ S Q := h
theorem r_slT {lo hi : Option Int} (h : Q (.tup (cutD ds lo hi)) S) : oSl (.tup ds) lo hi S Q := h
theorem r_slL {lo hi : Option Int} (h1 : S a = some (.list ds)) (h : ∀ p, S p = none → Q (.ref p) (supd S p (.list (cutD ds lo hi)))) : oSl (.ref a) lo hi S Q := ⟨ds, h1, h⟩
theorem r_slS {z : Str} {lo hi : Option Int} (h0 : z.length ≤ sizeLine) (h : Q (.str (cutS z lo hi)) S) : oSl (.str z) lo hi S Q := ⟨h0, h⟩
theorem r_dCB {R : List D → Sto → DQ → Prop} (h : ts ρ S fun ds S1 => R ds S1 Q) : dCB R ts ρ S Q := h
theorem r_bm {k : String} {M : D → List D → Sto → DQ → Prop} (h : to ρ S fun d S1 => dTy k d S1 ∧ ts ρ S1 fun ds S2 => M d ds S2 Q) : dBM k M to ts ρ S Q := h
theorem r_bm0 {k : String} {M : D → List D → Sto → DQ → Prop} (h : to ρ S fun d S1 => dTy k d S1 ∧ M d [] S1 Q) : dBM0 k M to ρ S Q := h
theorem r_tyL {P : Prop} (h0 : S a = some (.list ds)) (h : P) : dTy "list" (.ref a) S ∧ P := ⟨.inl ⟨rfl, ds, h0⟩, h⟩
theorem r_tyD {P : Prop} {kvs : List (Key × D)} (h0 : S a = some (.dict kvs)) (h : P) : dTy "dict" (.ref a) S ∧ P := ⟨.inr ⟨rfl, kvs, h0⟩, h⟩
theorem r_tyS {P : Prop} {z : Str} (h : P) : dTy "str" (.str z) S ∧ P := ⟨rfl, h⟩
theorem r_eqI (h : Q (.bl (decide (x = y))) S) : oEq (.int x) (.int y) S Q := h
theorem r_eqS {v w : Str} (h : Q (.bl (decide (v = w))) S) : oEq (.str v) (.str w) S Q := h
theorem r_eqB {v w : Bool} (h : Q (.bl (decide (v = w))) S) : oEq (.bl v) (.bl w) S Q := h
theorem r_neI (h : Q (.bl (!decide (x = y))) S) : oNe (.int x) (.int y) S Q := h
theorem r_neS {v w : Str} (h : Q (.bl (!decide (v = w))) S) : oNe (.str v) (.str w) S Q := h
theorem r_neB {v w : Bool} (h : Q (.bl (!decide (v = w))) S) : oNe (.bl v) (.bl w) S Q := h
theorem r_eqT (h1 : okD (.tup ds) = true) (h2 : okD (.tup es) = true) (h : Q (.bl (deq (.tup ds) (.tup es))) S) : oEq (.tup ds) (.tup es) S Q := ⟨h1, h2, h⟩
theorem r_neT (h1 : okD (.tup ds) = true) (h2 : okD (.tup es) = true) (h : Q (.bl (!deq (.tup ds) (.tup es))) S) : oNe (.tup ds) (.tup es) S Q := ⟨h1, h2, h⟩
theorem r_isN0 (h : Q (.bl true) S) : oIsN .non .non S Q := ⟨rfl, h⟩
theorem r_isNI (h : Q (.bl false) S) : oIsN (.int x) .non S Q := ⟨rfl, h⟩
theorem r_isNS {v : Str} (h : Q (.bl false) S) : oIsN (.str v) .non S Q := ⟨rfl, h⟩
theorem r_isNT (h : Q (.bl false) S) : oIsN (.tup ds) .non S Q := ⟨rfl, h⟩
theorem r_isNR (h : Q (.bl false) S) : oIsN (.ref a) .non S Q := ⟨rfl, h⟩
theorem r_noN0 (h : Q (.bl false) S) : oNotN .non .non S Q := ⟨rfl, h⟩
theorem r_noNI (h : Q (.bl true) S) : oNotN (.int x) .non S Q := ⟨rfl, h⟩
theorem r_noNS {v : Str} (h : Q (.bl true) S) : oNotN (.str v) .non S Q := ⟨rfl, h⟩
theorem r_noNT (h : Q (.bl true) S) : oNotN (.tup ds) .non S Q := ⟨rfl, h⟩
theorem r_noNR (h : Q (.bl true) S) : oNotN (.ref a) .non S Q := ⟨rfl, h⟩
theorem r_sub (h : Q (.int (x - y)) S) : oSub (.int x) (.int y) S Q := h
theorem r_lt (h : Q (.bl (decide (x < y))) S) : oLt (.int x) (.int y) S Q := h
theorem r_le (h : Q (.bl (decide (x ≤ y))) S) : oLe (.int x) (.int y) S Q := h
theorem r_gt (h : Q (.bl (decide (y < x))) S) : oGt (.int x) (.int y) S Q := h
theorem r_ge (h : Q (.bl (decide (y ≤ x))) S) : oGe (.int x) (.int y) S Q := h
theorem r_div (h0 : 0 < y ∧ y < 1073741824) (h : Q (.int (x / y)) S) : oDiv (.int x) (.int y) S Q := ⟨h0, h⟩
theorem r_mod (h0 : 0 < y) (h : Q (.int (x % y)) S) : oMod (.int x) (.int y) S Q := ⟨h0, h⟩
theorem r_pow (h0 : 0 ≤ y ∧ y ≤ 1000000 ∧ x.natAbs < 2 ^ 64) (h : Q (.int (x ^ y.toNat)) S) : oPow (.int x) (.int y) S Q := ⟨h0, h⟩
theorem r_mul (h0 : CMul x y) (h : Q (.int (x * y)) S) : oMulI (.int x) (.int y) S Q := ⟨h0, h⟩
theorem r_neg (h : Q (.int (-x)) S) : oNeg (.int x) S Q := h
theorem r_addI (h : Q (.int (x + y)) S) : oAdd (.int x) (.int y) S Q := h
theorem r_iadd {G : Int → Int → D} (h : Q (G x y) S) : oInt G (.int x) (.int y) S Q := h
theorem r_addS {v w : Str} (h0 : v.length + w.length ≤ sizeLine) (h : Q (.str (v ++ w)) S) : oAdd (.str v) (.str w) S Q := ⟨h0, h⟩
theorem r_addT (h0 : ds.length + es.length ≤ sizeLine) (h : Q (.tup (ds ++ es)) S) : oAdd (.tup ds) (.tup es) S Q := ⟨h0, h⟩
theorem r_addL {b : Addr} (h1 : S a = some (.list ds)) (h2 : S b = some (.list es)) (h0 : ds.length + es.length ≤ sizeLine) (h : ∀ p, S p = none → Q (.ref p) (supd S p (.list (ds ++ es)))) : oAdd (.ref a) (.ref b) S Q := ⟨ds, es, h1, h2, h0, h⟩
theorem r_inT {neg : Bool} (h0 : flatD d = true) (h1 : ds.all flatD = true) (h : Q (.bl (if neg then !inF d ds else inF d ds)) S) : oIn neg d (.tup ds) S Q := ⟨h0, h1, h⟩
theorem r_inL {neg : Bool} (h2 : S a = some (.list ds)) (h0 : flatD d = true) (h1 : ds.all flatD = true) (h : Q (.bl (if neg then !inF d ds else inF d ds)) S) : oIn neg d (.ref a) S Q := ⟨ds, h2, h0, h1, h⟩
theorem r_tru (h : te ρ S fun d S1 => dTru (dC d) ρ S1 QB) : dTru te ρ S QB := h
theorem r_truN (h : QB false S) : dTru (dC .non) ρ S QB := h
theorem r_truB {b : Bool} (h : QB b S) : dTru (dC (.bl b)) ρ S QB := h
theorem r_truI (h : QB (x != 0) S) : dTru (dC (.int x)) ρ S QB := h
theorem r_truT (h : QB (!ds.isEmpty) S) : dTru (dC (.tup ds)) ρ S QB := h
theorem r_truL (h0 : S a = some (.list ds)) (h : QB (!ds.isEmpty) S) : dTru (dC (.ref a)) ρ S QB := .inl ⟨ds, h0, h⟩
theorem r_truD {kvs : List (Key × D)} (h0 : S a = some (.dict kvs)) (h : QB (!kvs.isEmpty) S) : dTru (dC (.ref a)) ρ S QB := .inr ⟨kvs, h0, h⟩
theorem r_lenT (h : Q (.int ds.length) S) : oLen [.tup ds] S Q := h
theorem r_lenZ (h : Q (.int ds.length) S) : oLen [.lit ds] S Q := h
theorem r_lenS {v : Str} (h0 : v.length ≤ sizeLine) (h : Q (.int v.length) S) : oLen [.str v] S Q := ⟨h0, h⟩
theorem r_lenL (h0 : S a = some (.list ds)) (h : Q (.int ds.length) S) : oLen [.ref a] S Q := .inl ⟨ds, h0, h⟩
theorem r_lenD {kvs : List (Key × D)} (h0 : S a = some (.dict kvs)) (h : Q (.int kvs.length) S) : oLen [.ref a] S Q := .inr ⟨kvs, h0, h⟩
theorem r_intI (h : Q (.int x) S) : oIntOf [.int x] S Q := h
theorem r_intB {b : Bool} (h : Q (.int (if b = true then 1 else 0)) S) : oIntOf [.bl b] S Q := by
  cases b <;> exact h
theorem r_abs (h : Q (.int (if x < 0 then -x else x)) S) : oAbs [.int x] S Q := by
  exact h
theorem r_tupT (h : Q (.tup ds) S) : oTupOf [.tup ds] S Q := h
theorem r_tupL (h0 : S a = some (.list ds)) (h : Q (.tup ds) S) : oTupOf [.ref a] S Q := ⟨ds, h0, h⟩
theorem r_listT (h : ∀ p, S p = none → Q (.ref p) (supd S p (.list ds))) : oListOf [.tup ds] S Q := h
theorem r_listL (h0 : S a = some (.list ds)) (h : ∀ p, S p = none → Q (.ref p) (supd S p (.list ds))) : oListOf [.ref a] S Q := ⟨ds, h0, h⟩
theorem r_sortL {ns : List Int} (h0 : S a = some (.list (ns.map D.int))) (h : ∀ p, S p = none → Q (.ref p) (supd S p (.list ((sortI ns).map D.int)))) : oSorted [.ref a] S Q :=
  .inl ⟨ns, h0, fun ns' p h1 h2 h3 => by rw [sortI_eq h1 h2]; exact h p h3⟩
theorem r_sortD {kvs : List (Key × D)} {ns : List Int} (h0 : S a = some (.dict kvs)) (h1 : kvs.map (·.1) = ns.map Sum.inl) (h : ∀ p, S p = none → Q (.ref p) (supd S p (.list ((sortI ns).map D.int)))) : oSorted [.ref a] S Q :=
  .inr ⟨kvs, ns, h0, h1, fun ns' p h1 h2 h3 => by rw [sortI_eq h1 h2]; exact h p h3⟩
theorem r_isi {T0 : String} (h : te ρ S fun d S1 => ∃ t b, tyN S1 d = some t ∧ kitB t T0 = some b ∧ Q (.bl b) S1) : dIsi T0 te ρ S Q := h
theorem r_isiA {t T0 : String} {b : Bool} {P : Bool → Prop} (h0 : tyN S d = some t) (h1 : kitB t T0 = some b) (h : P b) : ∃ t b, tyN S d = some t ∧ kitB t T0 = some b ∧ P b := ⟨t, b, h0, h1, h⟩
theorem r_append (h0 : S a = some (.list ds)) (h1 : ds.length < sizeLine) (h : Q .non (supd S a (.list (ds ++ [d])))) : mAppend (.ref a) [d] S Q := ⟨a, ds, d, rfl, rfl, h0, h1, h⟩
theorem r_pop (h0 : S a = some (.list (ds ++ [d]))) (h : Q d (supd S a (.list ds))) : mPop (.ref a) [] S Q := ⟨a, ds, d, rfl, rfl, h0, h⟩
theorem r_extL {b : Addr} (h0 : S a = some (.list ds)) (h1 : S b = some (.list es)) (h2 : ds.length + es.length ≤ sizeLine) (h : Q .non (supd S a (.list (ds ++ es)))) : mExtend (.ref a) [.ref b] S Q := ⟨a, ds, es, rfl, .inl ⟨b, rfl, h1⟩, h0, h2, h⟩
theorem r_extT (h0 : S a = some (.list ds)) (h2 : ds.length + es.length ≤ sizeLine) (h : Q .non (supd S a (.list (ds ++ es)))) : mExtend (.ref a) [.tup es] S Q := ⟨a, ds, es, rfl, .inr rfl, h0, h2, h⟩
theorem r_ddget (h : td ρ S fun d S1 => ty ρ S1 fun i S2 => ∃ a kvs k v, d = .ref a ∧ S2 a = some (.dict kvs) ∧ keyD i = some k ∧ valD kvs k = some v ∧ Q v S2) : dDGet td ty ρ S Q := h
theorem r_dget {kvs : List (Key × D)} {k : Key} {P : D → Prop} (h0 : S a = some (.dict kvs)) (h1 : keyD e = some k) (h2 : valD kvs k = some d) (h : P d) : ∃ a' kvs k v, D.ref a = .ref a' ∧ S a' = some (.dict kvs) ∧ keyD e = some k ∧ valD kvs k = some v ∧ P v := ⟨a, kvs, k, d, rfl, h0, h1, h2, h⟩
theorem r_ddin {neg : Bool} (h : ty ρ S fun i S1 => td ρ S1 fun d S2 => ∃ a kvs k, d = .ref a ∧ S2 a = some (.dict kvs) ∧ keyD i = some k ∧ Q (.bl (if neg then !(valD kvs k).isSome else (valD kvs k).isSome)) S2) : dDIn neg ty td ρ S Q := h
theorem r_din {kvs : List (Key × D)} {k : Key} {P : Addr → List (Key × D) → Key → Prop} (h0 : S a = some (.dict kvs)) (h1 : keyD e = some k) (h : P a kvs k) : ∃ a' kvs k, D.ref a = .ref a' ∧ S a' = some (.dict kvs) ∧ keyD e = some k ∧ P a' kvs k := ⟨a, kvs, k, rfl, h0, h1, h⟩
theorem r_dput (h : tv ρ S fun v S1 => td ρ S1 fun d S2 => ty ρ S2 fun i S3 => ∃ a kvs k, d = .ref a ∧ S3 a = some (.dict kvs) ∧ keyD i = some k ∧ kvs.length < sizeLine ∧ nx ρ (supd S3 a (.dict (putKD kvs k v)))) : sDPutD td ty tv ⟨nx, rt, bk, ct⟩ ρ S := h
theorem r_dputA {kvs : List (Key × D)} {k : Key} {P : Sto → Prop} (h0 : S a = some (.dict kvs)) (h1 : keyD e = some k) (h2 : kvs.length < sizeLine) (h : P (supd S a (.dict (putKD kvs k d)))) : ∃ a' kvs k, D.ref a = .ref a' ∧ S a' = some (.dict kvs) ∧ keyD e = some k ∧ kvs.length < sizeLine ∧ P (supd S a' (.dict (putKD kvs k d))) := ⟨a, kvs, k, rfl, h0, h1, h2, h⟩
theorem r_ddel (h : td ρ S fun d S1 => ty ρ S1 fun i S2 => ∃ a kvs k, d = .ref a ∧ S2 a = some (.dict kvs) ∧ keyD i = some k ∧ (valD kvs k).isSome = true ∧ nx ρ (supd S2 a (.dict (dropKD kvs k)))) : sDDelD td ty ⟨nx, rt, bk, ct⟩ ρ S := h
theorem r_ddelA {kvs : List (Key × D)} {k : Key} {P : Sto → Prop} (h0 : S a = some (.dict kvs)) (h1 : keyD e = some k) (h2 : (valD kvs k).isSome = true) (h : P (supd S a (.dict (dropKD kvs k)))) : ∃ a' kvs k, D.ref a = .ref a' ∧ S a' = some (.dict kvs) ∧ keyD e = some k ∧ (valD kvs k).isSome = true ∧ P (supd S a' (.dict (dropKD kvs k))) := ⟨a, kvs, k, rfl, h0, h1, h2, h⟩
theorem r_dnew (h : ∀ p, S p = none → Q (.ref p) (supd S p (.dict []))) : dDNew ρ S Q := h
theorem r_iL (h : te ρ S fun d S1 => ∃ a ds, d = .ref a ∧ S1 a = some (.list ds) ∧ QI ⟨ds, fun S => S a = some (.list ds)⟩ S1) : iL te ρ S QI := h
theorem r_iLA {P : Addr → List D → Prop} (h0 : S a = some (.list ds)) (h : P a ds) : ∃ a' ds, D.ref a = .ref a' ∧ S a' = some (.list ds) ∧ P a' ds := ⟨a, ds, rfl, h0, h⟩
theorem r_iT (h : te ρ S fun d S1 => ∃ ds, d = .tup ds ∧ QI ⟨ds, fun _ => True⟩ S1) : iT te ρ S QI := h
theorem r_iTA {P : List D → Prop} (h : P ds) : ∃ ds', D.tup ds = .tup ds' ∧ P ds' := ⟨ds, rfl, h⟩
theorem r_iZ (h : te ρ S fun d S1 => ∃ ds, d = .lit ds ∧ QI ⟨ds, fun _ => True⟩ S1) : iZ te ρ S QI := h
theorem r_iZA {P : List D → Prop} (h : P ds) : ∃ ds', D.lit ds = .lit ds' ∧ P ds' := ⟨ds, rfl, h⟩
theorem r_iS (h : te ρ S fun d S1 => ∃ x, d = .str x ∧ QI ⟨chrD x, fun _ => True⟩ S1) : iS te ρ S QI := h
theorem r_iSA {v : Str} {P : Str → Prop} (h : P v) : ∃ v', D.str v = .str v' ∧ P v' := ⟨v, rfl, h⟩
theorem r_iR1 (h : ts ρ S fun ds S1 => ∃ j, ds = [.int j] ∧ -(2 ^ 62) ≤ j ∧ j < 2 ^ 62 ∧ QI ⟨rngD 0 j.toNat, fun _ => True⟩ S1) : iR1 ts ρ S QI := h
theorem r_iR1A {P : Int → Prop} (h0 : -(2 ^ 62) ≤ x) (h1 : x < 2 ^ 62) (h : P x) : ∃ j, [D.int x] = [.int j] ∧ -(2 ^ 62) ≤ j ∧ j < 2 ^ 62 ∧ P j := ⟨x, rfl, h0, h1, h⟩
theorem r_iR2 (h : ts ρ S fun ds S1 => ∃ i j, ds = [.int i, .int j] ∧ (-(2 ^ 62) ≤ i ∧ i < 2 ^ 62 ∧ -(2 ^ 62) ≤ j ∧ j < 2 ^ 62) ∧ QI ⟨rngD i (j - i).toNat, fun _ => True⟩ S1) : iR2 ts ρ S QI := h
theorem r_iR2A {P : Int → Int → Prop} (h0 : -(2 ^ 62) ≤ x ∧ x < 2 ^ 62 ∧ -(2 ^ 62) ≤ y ∧ y < 2 ^ 62) (h : P x y) : ∃ i j, [D.int x, D.int y] = [.int i, .int j] ∧ (-(2 ^ 62) ≤ i ∧ i < 2 ^ 62 ∧ -(2 ^ 62) ≤ j ∧ j < 2 ^ 62) ∧ P i j := ⟨x, y, rfl, h0, h⟩
theorem r_iE (h : ts ρ S fun es S1 => ∃ a ds, es = [.ref a] ∧ S1 a = some (.list ds) ∧ QI ⟨enumD ds, fun S => S a = some (.list ds)⟩ S1) : iE ts ρ S QI := h
theorem r_iEA {P : Addr → List D → Prop} (h0 : S a = some (.list ds)) (h : P a ds) : ∃ a' ds, [D.ref a] = [.ref a'] ∧ S a' = some (.list ds) ∧ P a' ds := ⟨a, ds, rfl, h0, h⟩
theorem r_iET (h : ts ρ S fun es S1 => ∃ ds, es = [.tup ds] ∧ QI ⟨enumD ds, fun _ => True⟩ S1) : iET ts ρ S QI := h
theorem r_iETA {P : List D → Prop} (h : P ds) : ∃ ds', [D.tup ds] = [.tup ds'] ∧ P ds' := ⟨ds, rfl, h⟩
theorem r_yes (h : QB true S) : dYes ρ S QB := h
/-! if -/
theorem r_ifT {A B : Prop} (h : A) : if true = true then A else B := h
theorem r_ifF {A B : Prop} (h : B) : if false = true then A else B := h
theorem r_if {c : Bool} {A B : Prop} (h1 : c = true → A) (h2 : c = false → B) : if c = true then A else B := by
  cases c
  · exact h2 rfl
  · exact h1 rfl
theorem r_ifd {P : Prop} [Decidable P] {A B : Prop} (h1 : P → A) (h2 : ¬ P → B) : if decide P = true then A else B := by
  by_cases h : P
  · rw [if_pos (decide_eq_true h)]; exact h1 h
  · rw [if_neg (by simp [h])]; exact h2 h
theorem r_ifn {P : Prop} [Decidable P] {A B : Prop} (h1 : ¬ P → A) (h2 : P → B) : if (!decide P) = true then A else B := by
  by_cases h : P
  · rw [if_neg (by simp [h])]; exact h2 h
  · rw [if_pos (by simp [h])]; exact h1 h
theorem r_ifPd {P : Prop} [Decidable P] {A B : Prop} (h : P) (q : A) : if decide P = true then A else B := by rw [if_pos (decide_eq_true h)]; exact q
theorem r_ifNd {P : Prop} [Decidable P] {A B : Prop} (h : ¬ P) (q : B) : if decide P = true then A else B := by rw [if_neg (by simp [h])]; exact q
theorem r_ifNT {A B : Prop} (h : B) : if (!true) = true then A else B := h
theorem r_ifNF {A B : Prop} (h : A) : if (!false) = true then A else B := h
theorem r_ifSS {α : Type} {x : α} {A B : Prop} (h : A) : if (Option.some x).isSome = true then A else B := h
theorem r_ifSN {α : Type} {A B : Prop} (h : B) : if (Option.none : Option α).isSome = true then A else B := h
theorem r_ifNS {α : Type} {x : α} {A B : Prop} (h : B) : if (!(Option.some x).isSome) = true then A else B := h
theorem r_ifNN {α : Type} {A B : Prop} (h : A) : if (!(Option.none : Option α).isSome) = true then A else B := h
theorem r_ifTT {c d : Bool} {A B : Prop} (h : if c = true then A else B) : if (if true = true then c else d) = true then A else B := h
theorem r_ifFF {c d : Bool} {A B : Prop} (h : if d = true then A else B) : if (if false = true then c else d) = true then A else B := h
theorem r_ifTTN {c d : Bool} {A B : Prop} (h : if (!c) = true then A else B) : if (!(if true = true then c else d)) = true then A else B := h
theorem r_ifFFN {c d : Bool} {A B : Prop} (h : if (!d) = true then A else B) : if (!(if false = true then c else d)) = true then A else B := h
theorem r_ifnPd {P : Prop} [Decidable P] {A B : Prop} (h : P) (q : B) : if (!decide P) = true then A else B := by rw [if_neg (by simp [h])]; exact q
theorem r_ifnNd {P : Prop} [Decidable P] {A B : Prop} (h : ¬ P) (q : A) : if (!decide P) = true then A else B := by rw [if_pos (by simp [h])]; exact q
/-- two ways that join -/
theorem r_cut {c : Bool} (P : Rho → Sto → Prop) (h3 : ∀ ρ' S', P ρ' S' → nx ρ' S') (h : ∀ nx', (∀ ρ' S', P ρ' S' → nx' ρ' S') → (if c = true then T ⟨nx', rt, bk, ct⟩ ρ S else U ⟨nx', rt, bk, ct⟩ ρ S)) : if c = true then T ⟨nx, rt, bk, ct⟩ ρ S else U ⟨nx, rt, bk, ct⟩ ρ S := h nx h3
theorem r_cutI (P : Rho → Sto → Prop) (h3 : ∀ ρ' S', P ρ' S' → nx ρ' S') (h : ∀ nx', (∀ ρ' S', P ρ' S' → nx' ρ' S') → dIf t T U ⟨nx', rt, bk, ct⟩ ρ S) : dIf t T U ⟨nx, rt, bk, ct⟩ ρ S := h nx h3
theorem r_else (hU : U ⟨nx, rt, bk, ct⟩ ρ S) (h : U ⟨nx, rt, bk, ct⟩ ρ S → dIf t T U ⟨nx, rt, bk, ct⟩ ρ S) : dIf t T U ⟨nx, rt, bk, ct⟩ ρ S := h hU
theorem r_then (hT : T ⟨nx, rt, bk, ct⟩ ρ S) (h : T ⟨nx, rt, bk, ct⟩ ρ S → dIf t T U ⟨nx, rt, bk, ct⟩ ρ S) : dIf t T U ⟨nx, rt, bk, ct⟩ ρ S := h hT
/-! for -/
theorem r_for {ti : DTI} (h : ti ρ S fun I S1 => ∃ W : Nat → Rho → Sto → Prop, W 0 ρ S1 ∧ ∀ i ρ S, i ≤ I.items.length → W i ρ S → I.ok S ∧
  (∀ d, I.items[i]? = some d → g d ρ S fun ρ2 S2 => T ⟨W (i + 1), rt, nx, W (i + 1)⟩ ρ2 S2) ∧ (i = I.items.length → nx ρ S)) : dFor ti g T ⟨nx, rt, bk, ct⟩ ρ S := h
theorem r_while (h : ∃ W : Nat → Rho → Sto → Prop, (∃ m, W m ρ S) ∧ ∀ m ρ S, W m ρ S →
  t ρ S fun b S1 => if b = true then T ⟨fun ρ' S' => ∃ m', m' < m ∧ W m' ρ' S', rt, nx, fun ρ' S' => ∃ m', m' < m ∧ W m' ρ' S'⟩ ρ S1 else nx ρ S1) : dWhile t T ⟨nx, rt, bk, ct⟩ ρ S := h
theorem r_lc {ti : DTI} {vs : List Nat} (h : ti ρ S fun I S1 => ∀ p, S1 p = none → ∃ W : Nat → Sto → Prop, W 0 (supd S1 p (.list [])) ∧ ∀ i S, i ≤ I.items.length → W i S → I.ok S ∧
  (∀ d, I.items[i]? = some d → g d (wipeD ρ vs) S fun ρ2 S2 => t ρ2 S2 fun b S3 => if b = true then te ρ2 S3 fun y S4 => ∃ acc, S4 p = some (.list acc) ∧ acc.length < sizeLine ∧ W (i + 1) (supd S4 p (.list (acc ++ [y]))) else W (i + 1) S3) ∧ (i = I.items.length → Q (.ref p) S)) : dLc ti g t te vs ρ S Q := h
theorem r_dc {ti : DTI} {vs : List Nat} (h : ti ρ S fun I S1 => ∀ p, S1 p = none → ∃ W : Nat → Sto → Prop, W 0 (supd S1 p (.dict [])) ∧ ∀ i S, i ≤ I.items.length → W i S → I.ok S ∧
  (∀ d, I.items[i]? = some d → g d (wipeD ρ vs) S fun ρ2 S2 => t ρ2 S2 fun b S3 => if b = true then td ρ2 S3 fun x S4 => tv ρ2 S4 fun y S5 => ∃ acc k, S5 p = some (.dict acc) ∧ keyD x = some k ∧ acc.length < sizeLine ∧ W (i + 1) (supd S5 p (.dict (putKD acc k y))) else W (i + 1) S3) ∧ (i = I.items.length → Q (.ref p) S)) : dDc ti g t td tv vs ρ S Q := h
end
end DL

namespace DL
open PySem L2 PySem.Spec PyProof.Rows
/-! ### comprehensions whose parts change nothing that was there -/
theorem none_back {L : List Addr} {S S' : Sto} {b : Addr} (k : Keep L S S') (h : S' b = none) (l : ∀ a ∈ L, S' a ≠ none) : S b = none := by
  cases e : S b with
  | none => rfl
  | some x =>
    by_cases z : b ∈ L
    · exact absurd h (l b z)
    · rw [k b x e z] at h; cases h
theorem take_snoc {α : Type} {l : List α} {i : Nat} {x : α} (h : l[i]? = some x) : l.take (i + 1) = l.take i ++ [x] := by
  rw [List.take_add_one, h]; rfl
theorem map_get {α : Type} {l : List α} {f : α → D} {i : Nat} {d : D} (h : (l.map f)[i]? = some d) : ∃ x, l[i]? = some x ∧ d = f x := by
  rw [List.getElem?_map] at h
  cases e : l[i]? with
  | none => rw [e] at h; cases h
  | some x => rw [e] at h; exact ⟨x, rfl, (Option.some.inj h).symm⟩
theorem enum_get {α : Type} {l : List α} {f : α → D} {i : Nat} {d : D} (h : (enumD (l.map f))[i]? = some d) : ∃ x, l[i]? = some x ∧ d = .tup [.int (i : Int), f x] := by
  have hi := (List.getElem?_eq_some_iff.mp h).1
  rw [enumD_length, List.length_map] at hi
  have h2 : (l.map f)[i]? = some (f l[i]) := by rw [List.getElem?_map, List.getElem?_eq_getElem hi]; rfl
  rw [enumD_get h2] at h
  exact ⟨l[i], List.getElem?_eq_getElem hi, (Option.some.inj h).symm⟩
theorem rng_get {lo : Int} {n i : Nat} {d : D} (h : (rngD lo n)[i]? = some d) : i < n ∧ d = .int (lo + i) := by
  have hi := (List.getElem?_eq_some_iff.mp h).1
  rw [rngD_length] at hi
  rw [rngD_get hi] at h
  exact ⟨hi, (Option.some.inj h).symm⟩
section
variable {ρ : Rho} {S1 : Sto} {Q : Addr → Sto → Prop} {I : DIt} {g : DTG} {tt : DTT} {te : DTE} {vs : List Nat}
theorem lc_pure (f : D → Option D) (hz : I.items.length ≤ sizeLine) (hok : ∀ S', Keep [] S1 S' → I.ok S')
    (hb : ∀ (i : Nat) d S' (Q' : DQ) (e : Sto → Prop), I.items[i]? = some d → Keep [] S1 S' → (∀ S'', Keep [] S' S'' → match f d with | some y => Q' y S'' | none => e S'') →
      g d (wipeD ρ vs) S' fun ρ2 S2 => tt ρ2 S2 fun b S3 => if b = true then te ρ2 S3 Q' else e S3)
    (hq : ∀ p S', S1 p = none → S' p = some (.list (I.items.filterMap f)) → Keep [] S1 S' → Q p S') :
    ∀ p, S1 p = none → ∃ W : Nat → Sto → Prop, W 0 (supd S1 p (.list [])) ∧ ∀ i S, i ≤ I.items.length → W i S → I.ok S ∧
      (∀ d, I.items[i]? = some d → g d (wipeD ρ vs) S fun ρ2 S2 => tt ρ2 S2 fun b S3 => if b = true then te ρ2 S3 fun y S4 => ∃ acc, S4 p = some (.list acc) ∧ acc.length < sizeLine ∧ W (i + 1) (supd S4 p (.list (acc ++ [y]))) else W (i + 1) S3) ∧ (i = I.items.length → Q p S) := by
  intro p hp
  refine ⟨fun i S => S p = some (.list ((I.items.take i).filterMap f)) ∧ Keep [] S1 S, ⟨supd_same, Keep.new1 hp⟩, ?_⟩
  rintro i S hi ⟨w1, w2⟩
  refine ⟨hok S w2, fun d hd => ?_, fun e => ?_⟩
  · refine hb i d S _ _ hd w2 fun S'' k => ?_
    have w3 := k _ _ w1 (by simp)
    cases e : f d with
    | none =>
      show S'' p = _ ∧ _
      refine ⟨?_, w2.trans k⟩
      rw [take_snoc hd, List.filterMap_append]
      simp only [List.filterMap_cons, e, List.filterMap_nil, List.append_nil]
      exact w3
    | some y =>
      refine ⟨_, w3, ?_, ?_, ?_⟩
      · have h1 := List.length_filterMap_le f (I.items.take i)
        have h2 := (List.getElem?_eq_some_iff.mp hd).1
        rw [List.length_take] at h1
        omega
      · rw [take_snoc hd, List.filterMap_append]
        simp only [List.filterMap_cons, e, List.filterMap_nil]
        exact supd_same
      · exact Keep.nw hp (w2.trans k)
  · have e2 : I.items.take i = I.items := List.take_of_length_le (by omega)
    rw [e2] at w1
    exact hq p S hp w1 w2
/-- no filter: a function of the items -/
theorem lc_map (f : D → D) (hz : I.items.length ≤ sizeLine) (hok : ∀ S', Keep [] S1 S' → I.ok S')
    (hb : ∀ (i : Nat) d S' (Q' : DQ) (e : Sto → Prop), I.items[i]? = some d → Keep [] S1 S' → (∀ S'', Keep [] S' S'' → Q' (f d) S'') →
      g d (wipeD ρ vs) S' fun ρ2 S2 => tt ρ2 S2 fun b S3 => if b = true then te ρ2 S3 Q' else e S3)
    (hq : ∀ p S', S1 p = none → S' p = some (.list (I.items.map f)) → Keep [] S1 S' → Q p S') :
    ∀ p, S1 p = none → ∃ W : Nat → Sto → Prop, W 0 (supd S1 p (.list [])) ∧ ∀ i S, i ≤ I.items.length → W i S → I.ok S ∧
      (∀ d, I.items[i]? = some d → g d (wipeD ρ vs) S fun ρ2 S2 => tt ρ2 S2 fun b S3 => if b = true then te ρ2 S3 fun y S4 => ∃ acc, S4 p = some (.list acc) ∧ acc.length < sizeLine ∧ W (i + 1) (supd S4 p (.list (acc ++ [y]))) else W (i + 1) S3) ∧ (i = I.items.length → Q p S) :=
  lc_pure (fun d => some (f d)) hz hok (fun i d S' Q' e h k q => hb i d S' Q' e h k q) (fun p S' h0 h1 h2 => hq p S' h0 (by rw [h1, List.filterMap_eq_map']) h2)
end
/-! ### the ends -/
theorem Def.none {P : Program} {w : World} {K : PySem.W.Frag} {mg : Str → Option Value} {base : Heap} {x : Str} {st : Stmt} {ps : List Str} (d : Def K mg x st ps) (k : Nat) : Cal P w K mg base k x (fun _ _ _ => False) :=
  let ⟨f, fd, F, m, b⟩ := d.ex
  have no : ∀ vs H Q, ¬ lC K (fun _ _ _ => False) vs H Q := fun vs H Q ⟨_, _, _, _, _, h, _⟩ => h
  ⟨f, fd, ps, ⟨fun vs H Q E h => absurd h (no vs H Q), fun A outer s H args us vs Q E _ _ _ _ h => absurd h (no vs H Q)⟩, m, F.kp, b⟩
theorem law_in0 {K : PySem.W.Frag} {S : DSp} {H : Hp} {a : Addr} {ns : List Int} (hO : Only H) (hS : SqL K H a (ns.map V.int)) (h : S [.lit (ns.map D.int)] (fun _ => Option.none) (fun d _ => d = .bl true)) :
    lC K S [.ref a] H (fun v _ => v = .bl true) :=
  ⟨[.lit (ns.map D.int)], fun _ => Option.none, fun d _ => d = .bl true, .cons (.lit (SqZ.of hO hS) (denAll_ints ns)) .nil, (fun _ _ e => nomatch e), h, fun d S' v H' e dv _ _ => by
    subst e; exact dv.blI⟩
end DL

namespace K57
open PySem L2 PySem.Spec PyProof.Rows DL
/-! ### the text by places (printed by dprint.py) -/
def top (i : Nat) : Stmt := PySem.Challenge.pw_guanaco_k57_whole_heaps_lose_nothing.main.body.getD i (.Pass ⟨0, 0, 0, 0⟩)
abbrev s_Heap___init__ : Stmt := inClass (top 1) 0
abbrev s_Heap_is_full : Stmt := inClass (top 1) 1
abbrev s_Heap_make : Stmt := inClass (top 1) 2
abbrev s_Heap_look : Stmt := inClass (top 1) 3
abbrev s_Heap_store : Stmt := inClass (top 1) 4
abbrev s_Heap_counts : Stmt := inClass (top 1) 5
abbrev s_Heap_minor : Stmt := inClass (top 1) 6
abbrev s_Heap_reached : Stmt := inClass (top 1) 7
abbrev s_Heap_major : Stmt := inClass (top 1) 8
abbrev s_Moving___init__ : Stmt := inClass (top 2) 0
abbrev s_Moving_value : Stmt := inClass (top 2) 1
abbrev s_Moving_adjust : Stmt := inClass (top 2) 2
abbrev s_is_young : Stmt := top 3
abbrev s_placed : Stmt := top 4
abbrev s__law_draw : Stmt := top 6
abbrev s__law_take : Stmt := top 7
abbrev s__law_alike : Stmt := top 8
abbrev s__law_pick : Stmt := top 9
abbrev s__law_make : Stmt := top 10
abbrev s_law : Stmt := top 11
/-! ### what the top has written -/
structure Top (K : PySem.W.Frag) (mg : Str → Option Value) (C_Heap C_Moving : Addr) : Prop where
  i_Heap : ∃ fi fd, FnD K "__init__" "Heap.__init__" s_Heap___init__ fi fd ∧ Mk K C_Heap fi ∧ mg "Heap" = some (.ref C_Heap) ∧ Binds K fd ["self", "young"] []
  m_Heap_is_full : MDef K C_Heap "is_full" "Heap.is_full" s_Heap_is_full ["self"]
  m_Heap_make : MDef K C_Heap "make" "Heap.make" s_Heap_make ["self", "kind", "word", "fields"]
  m_Heap_look : MDef K C_Heap "look" "Heap.look" s_Heap_look ["self", "value"]
  m_Heap_store : MDef K C_Heap "store" "Heap.store" s_Heap_store ["self", "value", "content"]
  m_Heap_counts : MDef K C_Heap "counts" "Heap.counts" s_Heap_counts ["self"]
  m_Heap_minor : MDef K C_Heap "minor" "Heap.minor" s_Heap_minor ["self", "roots"]
  m_Heap_reached : MDef K C_Heap "reached" "Heap.reached" s_Heap_reached ["self", "roots"]
  m_Heap_major : MDef K C_Heap "major" "Heap.major" s_Heap_major ["self", "roots"]
  i_Moving : ∃ fi fd, FnD K "__init__" "Moving.__init__" s_Moving___init__ fi fd ∧ Mk K C_Moving fi ∧ mg "Moving" = some (.ref C_Moving) ∧ Binds K fd ["self", "heap"] []
  m_Moving_value : MDef K C_Moving "value" "Moving.value" s_Moving_value ["self", "value"]
  m_Moving_adjust : MDef K C_Moving "adjust" "Moving.adjust" s_Moving_adjust ["self", "address"]
  d_is_young : Def K mg "is_young" s_is_young ["value"]
  d_placed : Def K mg "placed" s_placed ["value", "places"]
  d__law_draw : Def K mg "_law_draw" s__law_draw ["script"]
  d__law_take : Def K mg "_law_take" s__law_take ["draw", "many"]
  d__law_alike : Def K mg "_law_alike" s__law_alike ["value", "twin", "heap", "store", "deep"]
  d__law_pick : Def K mg "_law_pick" s__law_pick ["draw", "roots"]
  d__law_make : Def K mg "_law_make" s__law_make ["draw", "heap", "store", "roots"]
  d_law : Def K mg "law" s_law ["script"]
  c_Heap : Cls K C_Heap
  f_Heap_room : ClsF K C_Heap "room"
  f_Heap_young : ClsF K C_Heap "young"
  f_Heap_old : ClsF K C_Heap "old"
  f_Heap_remembered : ClsF K C_Heap "remembered"
  c_Moving : Cls K C_Moving
  f_Moving_heap : ClsF K C_Moving "heap"
  f_Moving_places : ClsF K C_Moving "places"
  z_abs : mg "abs" = none
  z_bool : mg "bool" = none
  z_enumerate : mg "enumerate" = none
  z_int : mg "int" = none
  z_isinstance : mg "isinstance" = none
  z_len : mg "len" = none
  z_list : mg "list" = none
  z_range : mg "range" = none
  z_sorted : mg "sorted" = none
  z_tuple : mg "tuple" = none
/-! ### Heap___init__ -/
abbrev N_Heap___init__ : List Str := ["self", "young"]
theorem sc_Heap___init__ : FnScope N_Heap___init__ ["self", "young"] (defScope s_Heap___init__) := ⟨rfl, rfl, rfl, by decide +kernel, rfl, by decide +kernel, by decide +kernel⟩
def R_Heap___init__ (K : PySem.W.Frag) (C_Heap C_Moving : Addr) : DTS :=
    (dSeq (sFldD K (dVar 0) (dVar 1) "room")
    (dSeq (sFldD K (dVar 0) (dLst dNil) "young")
    (dSeq (sFldD K (dVar 0) (dLst dNil) "old")
    (sFldD K (dVar 0) dDNew "remembered"))))
@[simp] theorem st_Heap___init__ (a0 : D) (a1 : D) : startD N_Heap___init__ [a0, a1] = [some a0, some a1] := rfl
theorem w_Heap___init__ {P : Program} {w : World} {K : PySem.W.Frag} {mg : Str → Option Value} {base : Heap} {k : Nat} {C_Heap C_Moving : Addr} (T : Top K mg C_Heap C_Moving) {sp : DSp} (len : ∀ ds St Q, sp ds St Q → ds.length = 2)
    (h : ∀ ds St Q, sp ds St Q → (R_Heap___init__ K C_Heap C_Moving) { nx := fun _ S' => Q.less .non S', rt := Q.less } (startD N_Heap___init__ ds) St) : NCal P w K mg base (k + 1) C_Heap "Heap" sp :=
  let ⟨_, _, F, M, hm, hb⟩ := T.i_Heap
  NDef.ok F M hm hb sc_Heap___init__ len fun f cdv A outer s H E hr => ⟨(R_Heap___init__ K C_Heap C_Moving), (dss_cons (ds_fld (dv 0) (dv 1))
    (dss_cons (ds_fld (dv 0) (de_lst da_nil))
    (dss_cons (ds_fld (dv 0) (de_lst da_nil))
    (dss_one (ds_fld (dv 0) de_dnew))))), h⟩
/-! ### Heap_is_full -/
abbrev N_Heap_is_full : List Str := ["self"]
theorem sc_Heap_is_full : FnScope N_Heap_is_full ["self"] (defScope s_Heap_is_full) := ⟨rfl, rfl, rfl, by decide +kernel, rfl, by decide +kernel, by decide +kernel⟩
def R_Heap_is_full (K : PySem.W.Frag) (C_Heap C_Moving : Addr) : DTS :=
    (dRet (dOp oGe (dCB oLen (dCons (dFld K (dVar 0) "young") dNil)) (dFld K (dVar 0) "room")))
@[simp] theorem st_Heap_is_full (a0 : D) : startD N_Heap_is_full [a0] = [some a0] := rfl
theorem w_Heap_is_full {P : Program} {w : World} {K : PySem.W.Frag} {mg : Str → Option Value} {base : Heap} {k : Nat} {C_Heap C_Moving : Addr} (T : Top K mg C_Heap C_Moving) {sp : DSp} (len : ∀ ds St Q, sp ds St Q → ds.length = 1)
    (h : ∀ ds St Q, sp ds St Q → (R_Heap_is_full K C_Heap C_Moving) { nx := fun _ S' => Q.less .non S', rt := Q.less } (startD N_Heap_is_full ds) St) : MCal P w K mg base (k + 1) C_Heap "is_full" sp :=
  T.m_Heap_is_full.ok T.c_Heap sc_Heap_is_full len fun f cdv A outer s H E hr => ⟨(R_Heap_is_full K C_Heap C_Moving), (dss_one (ds_ret (de_cmp ge_D (de_callB len_D T.z_len (da_cons (de_fld (dv 0)) da_nil)) (de_fld (dv 0))))), h⟩
/-! ### Heap_make -/
abbrev N_Heap_make : List Str := ["self", "kind", "word", "fields"]
theorem sc_Heap_make : FnScope N_Heap_make ["self", "kind", "word", "fields"] (defScope s_Heap_make) := ⟨rfl, rfl, rfl, by decide +kernel, rfl, by decide +kernel, by decide +kernel⟩
def R_Heap_make (K : PySem.W.Frag) (C_Heap C_Moving : Addr) : DTS :=
    (dSeq (dDrop (dBM "list" mAppend (dFld K (dVar 0) "young") (dCons (dTup (dCons (dVar 1) (dCons (dVar 2) (dCons (dCB oTupOf (dCons (dVar 3) dNil)) dNil)))) dNil)))
    (dRet (dTup (dCons (dC (.str "at")) (dCons (dUn oNeg (dCB oLen (dCons (dFld K (dVar 0) "young") dNil))) dNil)))))
@[simp] theorem st_Heap_make (a0 : D) (a1 : D) (a2 : D) (a3 : D) : startD N_Heap_make [a0, a1, a2, a3] = [some a0, some a1, some a2, some a3] := rfl
theorem w_Heap_make {P : Program} {w : World} {K : PySem.W.Frag} {mg : Str → Option Value} {base : Heap} {k : Nat} {C_Heap C_Moving : Addr} (T : Top K mg C_Heap C_Moving) {sp : DSp} (len : ∀ ds St Q, sp ds St Q → ds.length = 4)
    (h : ∀ ds St Q, sp ds St Q → (R_Heap_make K C_Heap C_Moving) { nx := fun _ S' => Q.less .non S', rt := Q.less } (startD N_Heap_make ds) St) : MCal P w K mg base (k + 1) C_Heap "make" sp :=
  T.m_Heap_make.ok T.c_Heap sc_Heap_make len fun f cdv A outer s H E hr => ⟨(R_Heap_make K C_Heap C_Moving), (dss_cons (ds_expr (de_bm PySem.F.plainAttrs_list PySem.F.slot_list_append PySem.F.type_list_append append_D (de_fld (dv 0)) (da_cons (de_tup (da_cons (dv 1) (da_cons (dv 2) (da_cons (de_callTy tuple_D T.z_tuple (da_cons (dv 3) da_nil)) da_nil)))) da_nil)))
    (dss_one (ds_ret (de_tup (da_cons de_str (da_cons (de_un neg_D (de_callB len_D T.z_len (da_cons (de_fld (dv 0)) da_nil))) da_nil)))))), h⟩
/-! ### Heap_look -/
abbrev N_Heap_look : List Str := ["self", "value", "address"]
theorem sc_Heap_look : FnScope N_Heap_look ["self", "value"] (defScope s_Heap_look) := ⟨rfl, rfl, rfl, by decide +kernel, rfl, by decide +kernel, by decide +kernel⟩
def R_Heap_look (K : PySem.W.Frag) (C_Heap C_Moving : Addr) : DTS :=
    (dSeq (dAsg (dOp oIx (dVar 1) (dC (.int 1))) (gN 2))
    (dSeq (dIf (dB (dOp oLt (dVar 2) (dC (.int 0)))) (dRet (dOp oIx (dFld K (dVar 0) "young") (dOp oSub (dUn oNeg (dVar 2)) (dC (.int 1))))) dNext)
    (dRet (dOp oIx (dFld K (dVar 0) "old") (dVar 2)))))
@[simp] theorem st_Heap_look (a0 : D) (a1 : D) : startD N_Heap_look [a0, a1] = [some a0, some a1, none] := rfl
theorem w_Heap_look {P : Program} {w : World} {K : PySem.W.Frag} {mg : Str → Option Value} {base : Heap} {k : Nat} {C_Heap C_Moving : Addr} (T : Top K mg C_Heap C_Moving) {sp : DSp} (len : ∀ ds St Q, sp ds St Q → ds.length = 2)
    (h : ∀ ds St Q, sp ds St Q → (R_Heap_look K C_Heap C_Moving) { nx := fun _ S' => Q.less .non S', rt := Q.less } (startD N_Heap_look ds) St) : MCal P w K mg base (k + 1) C_Heap "look" sp :=
  T.m_Heap_look.ok T.c_Heap sc_Heap_look len fun f cdv A outer s H E hr => ⟨(R_Heap_look K C_Heap C_Moving), (dss_cons (ds_set 2 sc_Heap_look.nd (de_ix (dv 1) de_int))
    (dss_cons (ds_if (dt_cmp lt_D (dv 2) de_int) (dss_one (ds_ret (de_ix (de_fld (dv 0)) (de_op sub_D (de_un neg_D (dv 2)) de_int)))) dss_nil)
    (dss_one (ds_ret (de_ix (de_fld (dv 0)) (dv 2)))))), h⟩
/-! ### Heap_store -/
abbrev N_Heap_store : List Str := ["self", "value", "content", "address", "kind", "word", "_"]
theorem sc_Heap_store : FnScope N_Heap_store ["self", "value", "content"] (defScope s_Heap_store) := ⟨rfl, rfl, rfl, by decide +kernel, rfl, by decide +kernel, by decide +kernel⟩
def R_Heap_store (K : PySem.W.Frag) (C_Heap C_Moving : Addr) (S_Heap_look S_is_young : DSp) : DTS :=
    (dSeq (dAsg (dOp oIx (dVar 1) (dC (.int 1))) (gN 3))
    (dSeq (dAsg (dMeth C_Heap "look" S_Heap_look (dVar 0) (dCons (dVar 1) dNil)) (gT 3 (gsCons (gN 4) (gsCons (gN 5) (gsCons (gN 6) gsNil)))))
    (dSeq (dIf (dB (dOp oLt (dVar 3) (dC (.int 0)))) (dSeq (dAsg (dTup (dCons (dVar 4) (dCons (dVar 5) (dCons (dTup (dCons (dVar 2) dNil)) dNil)))) (gIxD (dFld K (dVar 0) "young") (dOp oSub (dUn oNeg (dVar 3)) (dC (.int 1))) oSetL))
    dRetN) dNext)
    (dSeq (dAsg (dTup (dCons (dVar 4) (dCons (dVar 5) (dCons (dTup (dCons (dVar 2) dNil)) dNil)))) (gIxD (dFld K (dVar 0) "old") (dVar 3) oSetL))
    (dIf (dTru (dCall S_is_young (dCons (dVar 2) dNil))) (sDPutD (dFld K (dVar 0) "remembered") (dVar 3) (dC (.bl true))) dNext)))))
@[simp] theorem st_Heap_store (a0 : D) (a1 : D) (a2 : D) : startD N_Heap_store [a0, a1, a2] = [some a0, some a1, some a2, none, none, none, none] := rfl
theorem w_Heap_store {P : Program} {w : World} {K : PySem.W.Frag} {mg : Str → Option Value} {base : Heap} {k : Nat} {C_Heap C_Moving : Addr} (T : Top K mg C_Heap C_Moving) {S_Heap_look S_is_young : DSp} (c_Heap_look : MCal P w K mg base k C_Heap "look" S_Heap_look) (c_is_young : Cal P w K mg base k "is_young" S_is_young) {sp : DSp} (len : ∀ ds St Q, sp ds St Q → ds.length = 3)
    (h : ∀ ds St Q, sp ds St Q → (R_Heap_store K C_Heap C_Moving S_Heap_look S_is_young) { nx := fun _ S' => Q.less .non S', rt := Q.less } (startD N_Heap_store ds) St) : MCal P w K mg base (k + 1) C_Heap "store" sp :=
  T.m_Heap_store.ok T.c_Heap sc_Heap_store len fun f cdv A outer s H E hr => ⟨(R_Heap_store K C_Heap C_Moving S_Heap_look S_is_young), (dss_cons (ds_set 3 sc_Heap_store.nd (de_ix (dv 1) de_int))
    (dss_cons (ds_asg (de_meth (c_Heap_look.mono (Nat.le_refl k)) hr (dv 0) (da_cons (dv 1) da_nil)) (dg_tup (dgs_cons (dg_name 4 sc_Heap_store.nd) (dgs_cons (dg_name 5 sc_Heap_store.nd) (dgs_cons (dg_name 6 sc_Heap_store.nd) dgs_nil)))))
    (dss_cons (ds_if (dt_cmp lt_D (dv 3) de_int) (dss_cons (ds_asg (de_tup (da_cons (dv 4) (da_cons (dv 5) (da_cons (de_tup (da_cons (dv 2) da_nil)) da_nil)))) (dg_ix (de_fld (dv 0)) (de_op sub_D (de_un neg_D (dv 3)) de_int)))
    (dss_one ds_retN)) dss_nil)
    (dss_cons (ds_asg (de_tup (da_cons (dv 4) (da_cons (dv 5) (da_cons (de_tup (da_cons (dv 2) da_nil)) da_nil)))) (dg_ix (de_fld (dv 0)) (dv 3)))
    (dss_one (ds_if (dt_tru (de_call (c_is_young.mono (Nat.le_refl k)) hr (da_cons (dv 2) da_nil))) (dss_one (ds_dput (hu1 hr) (de_fld (dv 0)) (dv 3) de_bl)) dss_nil)))))), h⟩
/-! ### Heap_counts -/
abbrev N_Heap_counts : List Str := ["self"]
theorem sc_Heap_counts : FnScope N_Heap_counts ["self"] (defScope s_Heap_counts) := ⟨rfl, rfl, rfl, by decide +kernel, rfl, by decide +kernel, by decide +kernel⟩
def R_Heap_counts (K : PySem.W.Frag) (C_Heap C_Moving : Addr) : DTS :=
    (dRet (dTup (dCons (dCB oLen (dCons (dFld K (dVar 0) "young") dNil)) (dCons (dCB oLen (dCons (dFld K (dVar 0) "old") dNil)) (dCons (dCB oLen (dCons (dFld K (dVar 0) "remembered") dNil)) dNil)))))
@[simp] theorem st_Heap_counts (a0 : D) : startD N_Heap_counts [a0] = [some a0] := rfl
theorem w_Heap_counts {P : Program} {w : World} {K : PySem.W.Frag} {mg : Str → Option Value} {base : Heap} {k : Nat} {C_Heap C_Moving : Addr} (T : Top K mg C_Heap C_Moving) {sp : DSp} (len : ∀ ds St Q, sp ds St Q → ds.length = 1)
    (h : ∀ ds St Q, sp ds St Q → (R_Heap_counts K C_Heap C_Moving) { nx := fun _ S' => Q.less .non S', rt := Q.less } (startD N_Heap_counts ds) St) : MCal P w K mg base (k + 1) C_Heap "counts" sp :=
  T.m_Heap_counts.ok T.c_Heap sc_Heap_counts len fun f cdv A outer s H E hr => ⟨(R_Heap_counts K C_Heap C_Moving), (dss_one (ds_ret (de_tup (da_cons (de_callB len_D T.z_len (da_cons (de_fld (dv 0)) da_nil)) (da_cons (de_callB len_D T.z_len (da_cons (de_fld (dv 0)) da_nil)) (da_cons (de_callB len_D T.z_len (da_cons (de_fld (dv 0)) da_nil)) da_nil)))))), h⟩
/-! ### Heap_minor -/
abbrev N_Heap_minor : List Str := ["self", "roots", "moving", "scan", "adjusted", "address", "root"]
theorem sc_Heap_minor : FnScope N_Heap_minor ["self", "roots"] (defScope s_Heap_minor) := ⟨rfl, rfl, rfl, by decide +kernel, rfl, by decide +kernel, by decide +kernel⟩
def R_Heap_minor (K : PySem.W.Frag) (C_Heap C_Moving : Addr) (S_Moving S_Moving_value S_Moving_adjust : DSp) : DTS :=
    (dSeq (dAsg (dMake C_Moving S_Moving (dCons (dVar 0) dNil)) (gN 2))
    (dSeq (dAsg (dCB oLen (dCons (dFld K (dVar 0) "old") dNil)) (gN 3))
    (dSeq (dAsg (dCB oTupOf (dCons (dLc (iT (dVar 1)) (gN 6) dYes (dMeth C_Moving "value" S_Moving_value (dVar 2) (dCons (dVar 6) dNil)) [6]) dNil)) (gN 4))
    (dSeq (dFor (iL (dCB oSorted (dCons (dFld K (dVar 0) "remembered") dNil))) (gN 5) (dDrop (dMeth C_Moving "adjust" S_Moving_adjust (dVar 2) (dCons (dVar 5) dNil))))
    (dSeq (dWhile (dB (dOp oLt (dVar 3) (dCB oLen (dCons (dFld K (dVar 0) "old") dNil)))) (dSeq (dDrop (dMeth C_Moving "adjust" S_Moving_adjust (dVar 2) (dCons (dVar 3) dNil)))
    (dAug 3 (dC (.int 1)) (oInt fun i j => .int (i + j)))))
    (dSeq (sFldD K (dVar 0) (dLst dNil) "young")
    (dSeq (sFldD K (dVar 0) dDNew "remembered")
    (dRet (dVar 4)))))))))
@[simp] theorem st_Heap_minor (a0 : D) (a1 : D) : startD N_Heap_minor [a0, a1] = [some a0, some a1, none, none, none, none, none] := rfl
theorem w_Heap_minor {P : Program} {w : World} {K : PySem.W.Frag} {mg : Str → Option Value} {base : Heap} {k : Nat} {C_Heap C_Moving : Addr} (T : Top K mg C_Heap C_Moving) {S_Moving S_Moving_value S_Moving_adjust : DSp} (c_Moving : NCal P w K mg base k C_Moving "Moving" S_Moving) (c_Moving_value : MCal P w K mg base k C_Moving "value" S_Moving_value) (c_Moving_adjust : MCal P w K mg base k C_Moving "adjust" S_Moving_adjust) {sp : DSp} (len : ∀ ds St Q, sp ds St Q → ds.length = 2)
    (h : ∀ ds St Q, sp ds St Q → (R_Heap_minor K C_Heap C_Moving S_Moving S_Moving_value S_Moving_adjust) { nx := fun _ S' => Q.less .non S', rt := Q.less } (startD N_Heap_minor ds) St) : MCal P w K mg base (k + 2) C_Heap "minor" sp :=
  T.m_Heap_minor.ok T.c_Heap sc_Heap_minor len fun f cdv A outer s H E hr => ⟨(R_Heap_minor K C_Heap C_Moving S_Moving S_Moving_value S_Moving_adjust), (dss_cons (ds_set 2 sc_Heap_minor.nd (de_make c_Moving hr (da_cons (dv 0) da_nil)))
    (dss_cons (ds_set 3 sc_Heap_minor.nd (de_callB len_D T.z_len (da_cons (de_fld (dv 0)) da_nil)))
    (dss_cons (ds_set 4 sc_Heap_minor.nd (de_callTy tuple_D T.z_tuple (da_cons (de_lc (own := [("root", 6)]) sc_Heap_minor.nd (di_tup (dv 1)) (blkOk_by (N := N_Heap_minor) (sc := defScope s_Heap_minor) (by decide +kernel)) (fun _ _ _ _ _ => (dgc_name 6 sc_Heap_minor.nd)) (fun _ _ _ _ _ => dts_nil) (fun _ _ _ _ _ => (de_meth (c_Moving_value.mono (Nat.le_succ k)) hr (dv 2) (da_cons (dv 6) da_nil)))) da_nil)))
    (dss_cons (ds_for (di_list (de_callB (sorted_D rfl) T.z_sorted (da_cons (de_fld (dv 0)) da_nil))) (dg_name 5 sc_Heap_minor.nd) (dss_one (ds_expr (de_meth (c_Moving_adjust.mono (Nat.le_succ k)) hr (dv 2) (da_cons (dv 5) da_nil)))))
    (dss_cons (ds_while (dt_cmp lt_D (dv 3) (de_callB len_D T.z_len (da_cons (de_fld (dv 0)) da_nil))) (dss_cons (ds_expr (de_meth (c_Moving_adjust.mono (Nat.le_succ k)) hr (dv 2) (da_cons (dv 3) da_nil)))
    (dss_one (ds_aug 3 sc_Heap_minor.nd iadd_D de_int))))
    (dss_cons (ds_fld (dv 0) (de_lst da_nil))
    (dss_cons (ds_fld (dv 0) de_dnew)
    (dss_one (ds_ret (dv 4)))))))))), h⟩
/-! ### Heap_reached -/
abbrev N_Heap_reached : List Str := ["self", "roots", "found", "left", "value"]
theorem sc_Heap_reached : FnScope N_Heap_reached ["self", "roots"] (defScope s_Heap_reached) := ⟨rfl, rfl, rfl, by decide +kernel, rfl, by decide +kernel, by decide +kernel⟩
def R_Heap_reached (K : PySem.W.Frag) (C_Heap C_Moving : Addr) : DTS :=
    (dSeq (dAsg dDNew (gN 2))
    (dSeq (dAsg (dCB oListOf (dCons (dVar 1) dNil)) (gN 3))
    (dSeq (dWhile (dTru (dVar 3)) (dSeq (dAsg (dBM0 "list" mPop (dVar 3)) (gN 4))
    (dIf (dAnd (dB (dOp oEq (dOp oIx (dVar 4) (dC (.int 0))) (dC (.str "at")))) (dB (dDIn true (dOp oIx (dVar 4) (dC (.int 1))) (dVar 2)))) (dSeq (sDPutD (dVar 2) (dOp oIx (dVar 4) (dC (.int 1))) (dC (.bl true)))
    (dDrop (dBM "list" mExtend (dVar 3) (dCons (dOp oIx (dOp oIx (dFld K (dVar 0) "old") (dOp oIx (dVar 4) (dC (.int 1)))) (dC (.int 2))) dNil)))) dNext)))
    (dRet (dCB oSorted (dCons (dVar 2) dNil))))))
@[simp] theorem st_Heap_reached (a0 : D) (a1 : D) : startD N_Heap_reached [a0, a1] = [some a0, some a1, none, none, none] := rfl
theorem w_Heap_reached {P : Program} {w : World} {K : PySem.W.Frag} {mg : Str → Option Value} {base : Heap} {k : Nat} {C_Heap C_Moving : Addr} (T : Top K mg C_Heap C_Moving) {sp : DSp} (len : ∀ ds St Q, sp ds St Q → ds.length = 2)
    (h : ∀ ds St Q, sp ds St Q → (R_Heap_reached K C_Heap C_Moving) { nx := fun _ S' => Q.less .non S', rt := Q.less } (startD N_Heap_reached ds) St) : MCal P w K mg base (k + 1) C_Heap "reached" sp :=
  T.m_Heap_reached.ok T.c_Heap sc_Heap_reached len fun f cdv A outer s H E hr => ⟨(R_Heap_reached K C_Heap C_Moving), (dss_cons (ds_set 2 sc_Heap_reached.nd de_dnew)
    (dss_cons (ds_set 3 sc_Heap_reached.nd (de_callTy list_D T.z_list (da_cons (dv 1) da_nil)))
    (dss_cons (ds_while (dt_tru (dv 3)) (dss_cons (ds_set 4 sc_Heap_reached.nd (de_bm0 PySem.F.plainAttrs_list PySem.F.slot_list_pop PySem.F.type_list_pop pop_D (dv 3)))
    (dss_one (ds_if (dw_and (dt_cmp (eq_D hr.units) (de_ix (dv 4) de_int) de_str) (dw_and1 (dt_dnin (hu1 hr) (de_ix (dv 4) de_int) (dv 2)))).pt (dss_cons (ds_dput (hu1 hr) (dv 2) (de_ix (dv 4) de_int) de_bl)
    (dss_one (ds_expr (de_bm PySem.F.plainAttrs_list PySem.F.slot_list_extend PySem.F.type_list_extend extend_D (dv 3) (da_cons (de_ix (de_ix (de_fld (dv 0)) (de_ix (dv 4) de_int)) de_int) da_nil))))) dss_nil))))
    (dss_one (ds_ret (de_callB (sorted_D rfl) T.z_sorted (da_cons (dv 2) da_nil))))))), h⟩
/-! ### Heap_major -/
abbrev N_Heap_major : List Str := ["self", "roots", "kept", "places", "objects", "address", "kind", "word", "fields", "place", "field", "root"]
theorem sc_Heap_major : FnScope N_Heap_major ["self", "roots"] (defScope s_Heap_major) := ⟨rfl, rfl, rfl, by decide +kernel, rfl, by decide +kernel, by decide +kernel⟩
def R_Heap_major (K : PySem.W.Frag) (C_Heap C_Moving : Addr) (S_Heap_minor S_Heap_reached S_placed : DSp) : DTS :=
    (dSeq (dAsg (dMeth C_Heap "minor" S_Heap_minor (dVar 0) (dCons (dVar 1) dNil)) (gN 1))
    (dSeq (dAsg (dMeth C_Heap "reached" S_Heap_reached (dVar 0) (dCons (dVar 1) dNil)) (gN 2))
    (dSeq (dAsg (dDc (iE (dCons (dVar 2) dNil)) (gT 2 (gsCons (gN 9) (gsCons (gN 5) gsNil))) dYes (dVar 5) (dVar 9) [9, 5]) (gN 3))
    (dSeq (dAsg (dLst dNil) (gN 4))
    (dSeq (dFor (iL (dVar 2)) (gN 5) (dSeq (dAsg (dOp oIx (dFld K (dVar 0) "old") (dVar 5)) (gT 3 (gsCons (gN 6) (gsCons (gN 7) (gsCons (gN 8) gsNil)))))
    (dDrop (dBM "list" mAppend (dVar 4) (dCons (dTup (dCons (dVar 6) (dCons (dVar 7) (dCons (dCB oTupOf (dCons (dLc (iT (dVar 8)) (gN 10) dYes (dCall S_placed (dCons (dVar 10) (dCons (dVar 3) dNil))) [10]) dNil)) dNil)))) dNil)))))
    (dSeq (sFldD K (dVar 0) (dVar 4) "old")
    (dRet (dCB oTupOf (dCons (dLc (iT (dVar 1)) (gN 11) dYes (dCall S_placed (dCons (dVar 11) (dCons (dVar 3) dNil))) [11]) dNil)))))))))
@[simp] theorem st_Heap_major (a0 : D) (a1 : D) : startD N_Heap_major [a0, a1] = [some a0, some a1, none, none, none, none, none, none, none, none, none, none] := rfl
theorem w_Heap_major {P : Program} {w : World} {K : PySem.W.Frag} {mg : Str → Option Value} {base : Heap} {k : Nat} {C_Heap C_Moving : Addr} (T : Top K mg C_Heap C_Moving) {S_Heap_minor S_Heap_reached S_placed : DSp} (c_Heap_minor : MCal P w K mg base k C_Heap "minor" S_Heap_minor) (c_Heap_reached : MCal P w K mg base k C_Heap "reached" S_Heap_reached) (c_placed : Cal P w K mg base k "placed" S_placed) {sp : DSp} (len : ∀ ds St Q, sp ds St Q → ds.length = 2)
    (h : ∀ ds St Q, sp ds St Q → (R_Heap_major K C_Heap C_Moving S_Heap_minor S_Heap_reached S_placed) { nx := fun _ S' => Q.less .non S', rt := Q.less } (startD N_Heap_major ds) St) : MCal P w K mg base (k + 1) C_Heap "major" sp :=
  T.m_Heap_major.ok T.c_Heap sc_Heap_major len fun f cdv A outer s H E hr => ⟨(R_Heap_major K C_Heap C_Moving S_Heap_minor S_Heap_reached S_placed), (dss_cons (ds_set 1 sc_Heap_major.nd (de_meth (c_Heap_minor.mono (Nat.le_refl k)) hr (dv 0) (da_cons (dv 1) da_nil)))
    (dss_cons (ds_set 2 sc_Heap_major.nd (de_meth (c_Heap_reached.mono (Nat.le_refl k)) hr (dv 0) (da_cons (dv 1) da_nil)))
    (dss_cons (ds_set 3 sc_Heap_major.nd (de_dc (own := [("place", 9), ("address", 5)]) sc_Heap_major.nd (di_enum T.z_enumerate (da_cons (dv 2) da_nil)) (blkOk_by (N := N_Heap_major) (sc := defScope s_Heap_major) (by decide +kernel)) (fun _ _ _ _ _ => (dgc_tup (dgcs_cons (dgc_name 9 sc_Heap_major.nd) (dgcs_cons (dgc_name 5 sc_Heap_major.nd) dgcs_nil)) rfl)) (fun _ _ _ _ _ => dts_nil) (fun _ _ _ _ _ => (dv 5)) (fun _ _ _ _ _ => (dv 9))))
    (dss_cons (ds_set 4 sc_Heap_major.nd (de_lst da_nil))
    (dss_cons (ds_for (di_list (dv 2)) (dg_name 5 sc_Heap_major.nd) (dss_cons (ds_asg (de_ix (de_fld (dv 0)) (dv 5)) (dg_tup (dgs_cons (dg_name 6 sc_Heap_major.nd) (dgs_cons (dg_name 7 sc_Heap_major.nd) (dgs_cons (dg_name 8 sc_Heap_major.nd) dgs_nil)))))
    (dss_one (ds_expr (de_bm PySem.F.plainAttrs_list PySem.F.slot_list_append PySem.F.type_list_append append_D (dv 4) (da_cons (de_tup (da_cons (dv 6) (da_cons (dv 7) (da_cons (de_callTy tuple_D T.z_tuple (da_cons (de_lc (own := [("field", 10)]) sc_Heap_major.nd (di_tup (dv 8)) (blkOk_by (N := N_Heap_major) (sc := defScope s_Heap_major) (by decide +kernel)) (fun _ _ _ _ _ => (dgc_name 10 sc_Heap_major.nd)) (fun _ _ _ _ _ => dts_nil) (fun _ _ _ _ _ => (de_call (c_placed.mono (Nat.le_refl k)) hr (da_cons (dv 10) (da_cons (dv 3) da_nil))))) da_nil)) da_nil)))) da_nil))))))
    (dss_cons (ds_fld (dv 0) (dv 4))
    (dss_one (ds_ret (de_callTy tuple_D T.z_tuple (da_cons (de_lc (own := [("root", 11)]) sc_Heap_major.nd (di_tup (dv 1)) (blkOk_by (N := N_Heap_major) (sc := defScope s_Heap_major) (by decide +kernel)) (fun _ _ _ _ _ => (dgc_name 11 sc_Heap_major.nd)) (fun _ _ _ _ _ => dts_nil) (fun _ _ _ _ _ => (de_call (c_placed.mono (Nat.le_refl k)) hr (da_cons (dv 11) (da_cons (dv 3) da_nil))))) da_nil)))))))))), h⟩
/-! ### Moving___init__ -/
abbrev N_Moving___init__ : List Str := ["self", "heap"]
theorem sc_Moving___init__ : FnScope N_Moving___init__ ["self", "heap"] (defScope s_Moving___init__) := ⟨rfl, rfl, rfl, by decide +kernel, rfl, by decide +kernel, by decide +kernel⟩
def R_Moving___init__ (K : PySem.W.Frag) (C_Heap C_Moving : Addr) : DTS :=
    (dSeq (sFldD K (dVar 0) (dVar 1) "heap")
    (sFldD K (dVar 0) dDNew "places"))
@[simp] theorem st_Moving___init__ (a0 : D) (a1 : D) : startD N_Moving___init__ [a0, a1] = [some a0, some a1] := rfl
theorem w_Moving___init__ {P : Program} {w : World} {K : PySem.W.Frag} {mg : Str → Option Value} {base : Heap} {k : Nat} {C_Heap C_Moving : Addr} (T : Top K mg C_Heap C_Moving) {sp : DSp} (len : ∀ ds St Q, sp ds St Q → ds.length = 2)
    (h : ∀ ds St Q, sp ds St Q → (R_Moving___init__ K C_Heap C_Moving) { nx := fun _ S' => Q.less .non S', rt := Q.less } (startD N_Moving___init__ ds) St) : NCal P w K mg base (k + 1) C_Moving "Moving" sp :=
  let ⟨_, _, F, M, hm, hb⟩ := T.i_Moving
  NDef.ok F M hm hb sc_Moving___init__ len fun f cdv A outer s H E hr => ⟨(R_Moving___init__ K C_Heap C_Moving), (dss_cons (ds_fld (dv 0) (dv 1))
    (dss_one (ds_fld (dv 0) de_dnew))), h⟩
/-! ### Moving_value -/
abbrev N_Moving_value : List Str := ["self", "value"]
theorem sc_Moving_value : FnScope N_Moving_value ["self", "value"] (defScope s_Moving_value) := ⟨rfl, rfl, rfl, by decide +kernel, rfl, by decide +kernel, by decide +kernel⟩
def R_Moving_value (K : PySem.W.Frag) (C_Heap C_Moving : Addr) (S_is_young S_Heap_look : DSp) : DTS :=
    (dSeq (dIf (dNot (dTru (dCall S_is_young (dCons (dVar 1) dNil)))) (dRet (dVar 1)) dNext)
    (dSeq (dIf (dB (dDIn true (dOp oIx (dVar 1) (dC (.int 1))) (dFld K (dVar 0) "places"))) (dSeq (dDrop (dBM "list" mAppend (dFld K (dFld K (dVar 0) "heap") "old") (dCons (dMeth C_Heap "look" S_Heap_look (dFld K (dVar 0) "heap") (dCons (dVar 1) dNil)) dNil)))
    (sDPutD (dFld K (dVar 0) "places") (dOp oIx (dVar 1) (dC (.int 1))) (dOp oSub (dCB oLen (dCons (dFld K (dFld K (dVar 0) "heap") "old") dNil)) (dC (.int 1))))) dNext)
    (dRet (dTup (dCons (dC (.str "at")) (dCons (dDGet (dFld K (dVar 0) "places") (dOp oIx (dVar 1) (dC (.int 1)))) dNil))))))
@[simp] theorem st_Moving_value (a0 : D) (a1 : D) : startD N_Moving_value [a0, a1] = [some a0, some a1] := rfl
theorem w_Moving_value {P : Program} {w : World} {K : PySem.W.Frag} {mg : Str → Option Value} {base : Heap} {k : Nat} {C_Heap C_Moving : Addr} (T : Top K mg C_Heap C_Moving) {S_is_young S_Heap_look : DSp} (c_is_young : Cal P w K mg base k "is_young" S_is_young) (c_Heap_look : MCal P w K mg base k C_Heap "look" S_Heap_look) {sp : DSp} (len : ∀ ds St Q, sp ds St Q → ds.length = 2)
    (h : ∀ ds St Q, sp ds St Q → (R_Moving_value K C_Heap C_Moving S_is_young S_Heap_look) { nx := fun _ S' => Q.less .non S', rt := Q.less } (startD N_Moving_value ds) St) : MCal P w K mg base (k + 1) C_Moving "value" sp :=
  T.m_Moving_value.ok T.c_Moving sc_Moving_value len fun f cdv A outer s H E hr => ⟨(R_Moving_value K C_Heap C_Moving S_is_young S_Heap_look), (dss_cons (ds_if (dt_not (dt_tru (de_call (c_is_young.mono (Nat.le_refl k)) hr (da_cons (dv 1) da_nil)))) (dss_one (ds_ret (dv 1))) dss_nil)
    (dss_cons (ds_if (dt_dnin (hu1 hr) (de_ix (dv 1) de_int) (de_fld (dv 0))) (dss_cons (ds_expr (de_bm PySem.F.plainAttrs_list PySem.F.slot_list_append PySem.F.type_list_append append_D (de_fld (de_fld (dv 0))) (da_cons (de_meth (c_Heap_look.mono (Nat.le_refl k)) hr (de_fld (dv 0)) (da_cons (dv 1) da_nil)) da_nil)))
    (dss_one (ds_dput (hu1 hr) (de_fld (dv 0)) (de_ix (dv 1) de_int) (de_op sub_D (de_callB len_D T.z_len (da_cons (de_fld (de_fld (dv 0))) da_nil)) de_int)))) dss_nil)
    (dss_one (ds_ret (de_tup (da_cons de_str (da_cons (de_dget (hu1 hr) (de_fld (dv 0)) (de_ix (dv 1) de_int)) da_nil))))))), h⟩
/-! ### Moving_adjust -/
abbrev N_Moving_adjust : List Str := ["self", "address", "kind", "word", "fields", "field"]
theorem sc_Moving_adjust : FnScope N_Moving_adjust ["self", "address"] (defScope s_Moving_adjust) := ⟨rfl, rfl, rfl, by decide +kernel, rfl, by decide +kernel, by decide +kernel⟩
def R_Moving_adjust (K : PySem.W.Frag) (C_Heap C_Moving : Addr) (S_Moving_value : DSp) : DTS :=
    (dSeq (dAsg (dOp oIx (dFld K (dFld K (dVar 0) "heap") "old") (dVar 1)) (gT 3 (gsCons (gN 2) (gsCons (gN 3) (gsCons (gN 4) gsNil)))))
    (dAsg (dTup (dCons (dVar 2) (dCons (dVar 3) (dCons (dCB oTupOf (dCons (dLc (iT (dVar 4)) (gN 5) dYes (dMeth C_Moving "value" S_Moving_value (dVar 0) (dCons (dVar 5) dNil)) [5]) dNil)) dNil)))) (gIxD (dFld K (dFld K (dVar 0) "heap") "old") (dVar 1) oSetL)))
@[simp] theorem st_Moving_adjust (a0 : D) (a1 : D) : startD N_Moving_adjust [a0, a1] = [some a0, some a1, none, none, none, none] := rfl
theorem w_Moving_adjust {P : Program} {w : World} {K : PySem.W.Frag} {mg : Str → Option Value} {base : Heap} {k : Nat} {C_Heap C_Moving : Addr} (T : Top K mg C_Heap C_Moving) {S_Moving_value : DSp} (c_Moving_value : MCal P w K mg base k C_Moving "value" S_Moving_value) {sp : DSp} (len : ∀ ds St Q, sp ds St Q → ds.length = 2)
    (h : ∀ ds St Q, sp ds St Q → (R_Moving_adjust K C_Heap C_Moving S_Moving_value) { nx := fun _ S' => Q.less .non S', rt := Q.less } (startD N_Moving_adjust ds) St) : MCal P w K mg base (k + 1) C_Moving "adjust" sp :=
  T.m_Moving_adjust.ok T.c_Moving sc_Moving_adjust len fun f cdv A outer s H E hr => ⟨(R_Moving_adjust K C_Heap C_Moving S_Moving_value), (dss_cons (ds_asg (de_ix (de_fld (de_fld (dv 0))) (dv 1)) (dg_tup (dgs_cons (dg_name 2 sc_Moving_adjust.nd) (dgs_cons (dg_name 3 sc_Moving_adjust.nd) (dgs_cons (dg_name 4 sc_Moving_adjust.nd) dgs_nil)))))
    (dss_one (ds_asg (de_tup (da_cons (dv 2) (da_cons (dv 3) (da_cons (de_callTy tuple_D T.z_tuple (da_cons (de_lc (own := [("field", 5)]) sc_Moving_adjust.nd (di_tup (dv 4)) (blkOk_by (N := N_Moving_adjust) (sc := defScope s_Moving_adjust) (by decide +kernel)) (fun _ _ _ _ _ => (dgc_name 5 sc_Moving_adjust.nd)) (fun _ _ _ _ _ => dts_nil) (fun _ _ _ _ _ => (de_meth (c_Moving_value.mono (Nat.le_refl k)) hr (dv 0) (da_cons (dv 5) da_nil)))) da_nil)) da_nil)))) (dg_ix (de_fld (de_fld (dv 0))) (dv 1))))), h⟩
/-! ### is_young -/
abbrev N_is_young : List Str := ["value"]
theorem sc_is_young : FnScope N_is_young ["value"] (defScope s_is_young) := ⟨rfl, rfl, rfl, by decide +kernel, rfl, by decide +kernel, by decide +kernel⟩
def R_is_young (K : PySem.W.Frag) (C_Heap C_Moving : Addr) : DTS :=
    (dRet (dAndV (dOp oEq (dOp oIx (dVar 0) (dC (.int 0))) (dC (.str "at"))) (dOp oLt (dOp oIx (dVar 0) (dC (.int 1))) (dC (.int 0)))))
@[simp] theorem st_is_young (a0 : D) : startD N_is_young [a0] = [some a0] := rfl
theorem w_is_young {P : Program} {w : World} {K : PySem.W.Frag} {mg : Str → Option Value} {base : Heap} {k : Nat} {C_Heap C_Moving : Addr} (T : Top K mg C_Heap C_Moving) {sp : DSp} (len : ∀ ds St Q, sp ds St Q → ds.length = 1)
    (h : ∀ ds St Q, sp ds St Q → (R_is_young K C_Heap C_Moving) { nx := fun _ S' => Q.less .non S', rt := Q.less } (startD N_is_young ds) St) : Cal P w K mg base (k + 1) "is_young" sp :=
  T.d_is_young.ok sc_is_young len fun f cdv A outer s H E hr => ⟨(R_is_young K C_Heap C_Moving), (dss_one (ds_ret (de_and (de_cmp (eq_D hr.units) (de_ix (dv 0) de_int) de_str) (de_one (de_cmp lt_D (de_ix (dv 0) de_int) de_int))))), h⟩
/-! ### placed -/
abbrev N_placed : List Str := ["value", "places"]
theorem sc_placed : FnScope N_placed ["value", "places"] (defScope s_placed) := ⟨rfl, rfl, rfl, by decide +kernel, rfl, by decide +kernel, by decide +kernel⟩
def R_placed (K : PySem.W.Frag) (C_Heap C_Moving : Addr) : DTS :=
    (dSeq (dIf (dB (dOp oEq (dOp oIx (dVar 0) (dC (.int 0))) (dC (.str "at")))) (dRet (dTup (dCons (dC (.str "at")) (dCons (dDGet (dVar 1) (dOp oIx (dVar 0) (dC (.int 1)))) dNil)))) dNext)
    (dRet (dVar 0)))
@[simp] theorem st_placed (a0 : D) (a1 : D) : startD N_placed [a0, a1] = [some a0, some a1] := rfl
theorem w_placed {P : Program} {w : World} {K : PySem.W.Frag} {mg : Str → Option Value} {base : Heap} {k : Nat} {C_Heap C_Moving : Addr} (T : Top K mg C_Heap C_Moving) {sp : DSp} (len : ∀ ds St Q, sp ds St Q → ds.length = 2)
    (h : ∀ ds St Q, sp ds St Q → (R_placed K C_Heap C_Moving) { nx := fun _ S' => Q.less .non S', rt := Q.less } (startD N_placed ds) St) : Cal P w K mg base (k + 1) "placed" sp :=
  T.d_placed.ok sc_placed len fun f cdv A outer s H E hr => ⟨(R_placed K C_Heap C_Moving), (dss_cons (ds_if (dt_cmp (eq_D hr.units) (de_ix (dv 0) de_int) de_str) (dss_one (ds_ret (de_tup (da_cons de_str (da_cons (de_dget (hu1 hr) (dv 1) (de_ix (dv 0) de_int)) da_nil))))) dss_nil)
    (dss_one (ds_ret (dv 0)))), h⟩
/-! ### _law_draw -/
abbrev N__law_draw : List Str := ["script", "seed", "cell", "first"]
theorem sc__law_draw : FnScope N__law_draw ["script"] (defScope s__law_draw) := ⟨rfl, rfl, rfl, by decide +kernel, rfl, by decide +kernel, by decide +kernel⟩
def R__law_draw (K : PySem.W.Frag) (C_Heap C_Moving : Addr) : DTS :=
    (dSeq (dAsg (dC (.int 12345)) (gN 1))
    (dSeq (dFor (iZ (dVar 0)) (gN 2) (dAsg (dOp oMod (dCB oIntOf (dCons (dOp oAdd (dOp oMulI (dVar 1) (dC (.int 69621))) (dCB oAbs (dCons (dCB oIntOf (dCons (dVar 2) dNil)) dNil))) dNil)) (dC (.int 2147483647))) (gN 1)))
    (dSeq (dAsg (dC (.int 0)) (gN 3))
    (dSeq (dIf (dAnd (dB (dOp oGt (dCB oLen (dCons (dVar 0) dNil)) (dC (.int 0)))) (dB (dOp oGe (dCB oIntOf (dCons (dOp oIx (dVar 0) (dC (.int 0))) dNil)) (dOp oPow (dC (.int 10)) (dC (.int 18)))))) (dAsg (dCB oIntOf (dCons (dOp oIx (dVar 0) (dC (.int 0))) dNil)) (gN 3)) dNext)
    (dRet (dLst (dCons (dVar 3) (dCons (dOp oMod (dCB oIntOf (dCons (dOp oAdd (dOp oMulI (dVar 1) (dC (.int 48271))) (dC (.int 7))) dNil)) (dC (.int 2147483647))) dNil))))))))
@[simp] theorem st__law_draw (a0 : D) : startD N__law_draw [a0] = [some a0, none, none, none] := rfl
theorem w__law_draw {P : Program} {w : World} {K : PySem.W.Frag} {mg : Str → Option Value} {base : Heap} {k : Nat} {C_Heap C_Moving : Addr} (T : Top K mg C_Heap C_Moving) {sp : DSp} (len : ∀ ds St Q, sp ds St Q → ds.length = 1)
    (h : ∀ ds St Q, sp ds St Q → (R__law_draw K C_Heap C_Moving) { nx := fun _ S' => Q.less .non S', rt := Q.less } (startD N__law_draw ds) St) : Cal P w K mg base (k + 1) "_law_draw" sp :=
  T.d__law_draw.ok sc__law_draw len fun f cdv A outer s H E hr => ⟨(R__law_draw K C_Heap C_Moving), (dss_cons (ds_set 1 sc__law_draw.nd de_int)
    (dss_cons (ds_for (di_lit (dv 0)) (dg_name 2 sc__law_draw.nd) (dss_one (ds_set 1 sc__law_draw.nd (de_op mod_D (de_callTy int_D T.z_int (da_cons (de_op add_D (de_op mulI_D (dv 1) de_int) (de_callB abs_D T.z_abs (da_cons (de_callTy int_D T.z_int (da_cons (dv 2) da_nil)) da_nil))) da_nil)) de_int))))
    (dss_cons (ds_set 3 sc__law_draw.nd de_int)
    (dss_cons (ds_if (dw_and (dt_cmp gt_D (de_callB len_D T.z_len (da_cons (dv 0) da_nil)) de_int) (dw_and1 (dt_cmp ge_D (de_callTy int_D T.z_int (da_cons (de_ix (dv 0) de_int) da_nil)) (de_op pow_D de_int de_int)))).pt (dss_one (ds_set 3 sc__law_draw.nd (de_callTy int_D T.z_int (da_cons (de_ix (dv 0) de_int) da_nil)))) dss_nil)
    (dss_one (ds_ret (de_lst (da_cons (dv 3) (da_cons (de_op mod_D (de_callTy int_D T.z_int (da_cons (de_op add_D (de_op mulI_D (dv 1) de_int) de_int) da_nil)) de_int) da_nil))))))))), h⟩
/-! ### _law_take -/
abbrev N__law_take : List Str := ["draw", "many", "digit"]
theorem sc__law_take : FnScope N__law_take ["draw", "many"] (defScope s__law_take) := ⟨rfl, rfl, rfl, by decide +kernel, rfl, by decide +kernel, by decide +kernel⟩
def R__law_take (K : PySem.W.Frag) (C_Heap C_Moving : Addr) : DTS :=
    (dSeq (dIf (dB (dOp oGt (dOp oIx (dVar 0) (dC (.int 0))) (dC (.int 0)))) (dSeq (dAsg (dOp oMod (dCB oIntOf (dCons (dOp oIx (dVar 0) (dC (.int 0))) dNil)) (dVar 1)) (gN 2))
    (dSeq (dAsg (dOp oDiv (dOp oIx (dVar 0) (dC (.int 0))) (dVar 1)) (gIxD (dVar 0) (dC (.int 0)) oSetL))
    (dRet (dVar 2)))) dNext)
    (dSeq (dAsg (dOp oMod (dCB oIntOf (dCons (dOp oAdd (dOp oMulI (dOp oIx (dVar 0) (dC (.int 1))) (dC (.int 48271))) (dC (.int 11))) dNil)) (dC (.int 2147483647))) (gIxD (dVar 0) (dC (.int 1)) oSetL))
    (dRet (dOp oMod (dCB oIntOf (dCons (dOp oDiv (dOp oIx (dVar 0) (dC (.int 1))) (dC (.int 7))) dNil)) (dVar 1)))))
@[simp] theorem st__law_take (a0 : D) (a1 : D) : startD N__law_take [a0, a1] = [some a0, some a1, none] := rfl
theorem w__law_take {P : Program} {w : World} {K : PySem.W.Frag} {mg : Str → Option Value} {base : Heap} {k : Nat} {C_Heap C_Moving : Addr} (T : Top K mg C_Heap C_Moving) {sp : DSp} (len : ∀ ds St Q, sp ds St Q → ds.length = 2)
    (h : ∀ ds St Q, sp ds St Q → (R__law_take K C_Heap C_Moving) { nx := fun _ S' => Q.less .non S', rt := Q.less } (startD N__law_take ds) St) : Cal P w K mg base (k + 1) "_law_take" sp :=
  T.d__law_take.ok sc__law_take len fun f cdv A outer s H E hr => ⟨(R__law_take K C_Heap C_Moving), (dss_cons (ds_if (dt_cmp gt_D (de_ix (dv 0) de_int) de_int) (dss_cons (ds_set 2 sc__law_take.nd (de_op mod_D (de_callTy int_D T.z_int (da_cons (de_ix (dv 0) de_int) da_nil)) (dv 1)))
    (dss_cons (ds_asg (de_op div_D (de_ix (dv 0) de_int) (dv 1)) (dg_ix (dv 0) de_int))
    (dss_one (ds_ret (dv 2))))) dss_nil)
    (dss_cons (ds_asg (de_op mod_D (de_callTy int_D T.z_int (da_cons (de_op add_D (de_op mulI_D (de_ix (dv 0) de_int) de_int) de_int) da_nil)) de_int) (dg_ix (dv 0) de_int))
    (dss_one (ds_ret (de_op mod_D (de_callTy int_D T.z_int (da_cons (de_op div_D (de_ix (dv 0) de_int) de_int) da_nil)) (dv 1)))))), h⟩
/-! ### _law_alike -/
abbrev N__law_alike : List Str := ["value", "twin", "heap", "store", "deep", "actual", "due", "k", "field"]
theorem sc__law_alike : FnScope N__law_alike ["value", "twin", "heap", "store", "deep"] (defScope s__law_alike) := ⟨rfl, rfl, rfl, by decide +kernel, rfl, by decide +kernel, by decide +kernel⟩
def R__law_alike (K : PySem.W.Frag) (C_Heap C_Moving : Addr) (S_Heap_look S__law_alike : DSp) : DTS :=
    (dSeq (dIf (dB (dOp oNe (dOp oIx (dVar 1) (dC (.int 0))) (dC (.str "no")))) (dRet (dOp oEq (dVar 0) (dVar 1))) dNext)
    (dSeq (dIf (dB (dOp oNe (dOp oIx (dVar 0) (dC (.int 0))) (dC (.str "at")))) (dRet (dC (.bl false))) dNext)
    (dSeq (dIf (dB (dOp oEq (dVar 4) (dC (.int 0)))) (dRet (dC (.bl true))) dNext)
    (dSeq (dAsg (dMeth C_Heap "look" S_Heap_look (dVar 2) (dCons (dVar 0) dNil)) (gN 5))
    (dSeq (dAsg (dOp oIx (dVar 3) (dOp oIx (dVar 1) (dC (.int 1)))) (gN 6))
    (dSeq (dIf (dOr (dB (dOp oNe (dOp oIx (dVar 5) (dC (.int 0))) (dOp oIx (dVar 6) (dC (.int 0))))) (dOr (dB (dOp oNe (dOp oIx (dVar 5) (dC (.int 1))) (dOp oIx (dVar 6) (dC (.int 1))))) (dB (dOp oNe (dCB oLen (dCons (dOp oIx (dVar 5) (dC (.int 2))) dNil)) (dCB oLen (dCons (dOp oIx (dVar 6) (dC (.int 2))) dNil)))))) (dRet (dC (.bl false))) dNext)
    (dSeq (dFor (iET (dCons (dOp oIx (dVar 6) (dC (.int 2))) dNil)) (gT 2 (gsCons (gN 7) (gsCons (gN 8) gsNil))) (dIf (dNot (dTru (dCall S__law_alike (dCons (dOp oIx (dOp oIx (dVar 5) (dC (.int 2))) (dVar 7)) (dCons (dVar 8) (dCons (dVar 2) (dCons (dVar 3) (dCons (dOp oSub (dVar 4) (dC (.int 1))) dNil)))))))) (dRet (dC (.bl false))) dNext))
    (dRet (dC (.bl true))))))))))
@[simp] theorem st__law_alike (a0 : D) (a1 : D) (a2 : D) (a3 : D) (a4 : D) : startD N__law_alike [a0, a1, a2, a3, a4] = [some a0, some a1, some a2, some a3, some a4, none, none, none, none] := rfl
theorem w__law_alike {P : Program} {w : World} {K : PySem.W.Frag} {mg : Str → Option Value} {base : Heap} {k : Nat} {C_Heap C_Moving : Addr} (T : Top K mg C_Heap C_Moving) {S_Heap_look S__law_alike : DSp} (c_Heap_look : MCal P w K mg base k C_Heap "look" S_Heap_look) (c__law_alike : Cal P w K mg base k "_law_alike" S__law_alike) {sp : DSp} (len : ∀ ds St Q, sp ds St Q → ds.length = 5)
    (h : ∀ ds St Q, sp ds St Q → (R__law_alike K C_Heap C_Moving S_Heap_look S__law_alike) { nx := fun _ S' => Q.less .non S', rt := Q.less } (startD N__law_alike ds) St) : Cal P w K mg base (k + 1) "_law_alike" sp :=
  T.d__law_alike.ok sc__law_alike len fun f cdv A outer s H E hr => ⟨(R__law_alike K C_Heap C_Moving S_Heap_look S__law_alike), (dss_cons (ds_if (dt_cmp (ne_D hr.units) (de_ix (dv 1) de_int) de_str) (dss_one (ds_ret (de_cmp (eq_D hr.units) (dv 0) (dv 1)))) dss_nil)
    (dss_cons (ds_if (dt_cmp (ne_D hr.units) (de_ix (dv 0) de_int) de_str) (dss_one (ds_ret de_bl)) dss_nil)
    (dss_cons (ds_if (dt_cmp (eq_D hr.units) (dv 4) de_int) (dss_one (ds_ret de_bl)) dss_nil)
    (dss_cons (ds_set 5 sc__law_alike.nd (de_meth (c_Heap_look.mono (Nat.le_refl k)) hr (dv 2) (da_cons (dv 0) da_nil)))
    (dss_cons (ds_set 6 sc__law_alike.nd (de_ix (dv 3) (de_ix (dv 1) de_int)))
    (dss_cons (ds_if (dw_or (dt_cmp (ne_D hr.units) (de_ix (dv 5) de_int) (de_ix (dv 6) de_int)) (dw_or (dt_cmp (ne_D hr.units) (de_ix (dv 5) de_int) (de_ix (dv 6) de_int)) (dw_or1 (dt_cmp (ne_D hr.units) (de_callB len_D T.z_len (da_cons (de_ix (dv 5) de_int) da_nil)) (de_callB len_D T.z_len (da_cons (de_ix (dv 6) de_int) da_nil)))))).pt (dss_one (ds_ret de_bl)) dss_nil)
    (dss_cons (ds_for (di_enumT T.z_enumerate (da_cons (de_ix (dv 6) de_int) da_nil)) (dg_tup (dgs_cons (dg_name 7 sc__law_alike.nd) (dgs_cons (dg_name 8 sc__law_alike.nd) dgs_nil))) (dss_one (ds_if (dt_not (dt_tru (de_call (c__law_alike.mono (Nat.le_refl k)) hr (da_cons (de_ix (de_ix (dv 5) de_int) (dv 7)) (da_cons (dv 8) (da_cons (dv 2) (da_cons (dv 3) (da_cons (de_op sub_D (dv 4) de_int) da_nil)))))))) (dss_one (ds_ret de_bl)) dss_nil)))
    (dss_one (ds_ret de_bl))))))))), h⟩
/-! ### _law_pick -/
abbrev N__law_pick : List Str := ["draw", "roots", "number"]
theorem sc__law_pick : FnScope N__law_pick ["draw", "roots"] (defScope s__law_pick) := ⟨rfl, rfl, rfl, by decide +kernel, rfl, by decide +kernel, by decide +kernel⟩
def R__law_pick (K : PySem.W.Frag) (C_Heap C_Moving : Addr) (S__law_take : DSp) : DTS :=
    (dSeq (dIf (dAnd (dB (dOp oGt (dCB oLen (dCons (dVar 1) dNil)) (dC (.int 0)))) (dB (dOp oGt (dCall S__law_take (dCons (dVar 0) (dCons (dC (.int 5)) dNil))) (dC (.int 0))))) (dRet (dOp oIx (dVar 1) (dCall S__law_take (dCons (dVar 0) (dCons (dCB oLen (dCons (dVar 1) dNil)) dNil))))) dNext)
    (dSeq (dAsg (dTup (dCons (dC (.str "int")) (dCons (dCall S__law_take (dCons (dVar 0) (dCons (dC (.int 7)) dNil))) dNil))) (gN 2))
    (dRet (dTup (dCons (dVar 2) (dCons (dVar 2) dNil))))))
@[simp] theorem st__law_pick (a0 : D) (a1 : D) : startD N__law_pick [a0, a1] = [some a0, some a1, none] := rfl
theorem w__law_pick {P : Program} {w : World} {K : PySem.W.Frag} {mg : Str → Option Value} {base : Heap} {k : Nat} {C_Heap C_Moving : Addr} (T : Top K mg C_Heap C_Moving) {S__law_take : DSp} (c__law_take : Cal P w K mg base k "_law_take" S__law_take) {sp : DSp} (len : ∀ ds St Q, sp ds St Q → ds.length = 2)
    (h : ∀ ds St Q, sp ds St Q → (R__law_pick K C_Heap C_Moving S__law_take) { nx := fun _ S' => Q.less .non S', rt := Q.less } (startD N__law_pick ds) St) : Cal P w K mg base (k + 1) "_law_pick" sp :=
  T.d__law_pick.ok sc__law_pick len fun f cdv A outer s H E hr => ⟨(R__law_pick K C_Heap C_Moving S__law_take), (dss_cons (ds_if (dw_and (dt_cmp gt_D (de_callB len_D T.z_len (da_cons (dv 1) da_nil)) de_int) (dw_and1 (dt_cmp gt_D (de_call (c__law_take.mono (Nat.le_refl k)) hr (da_cons (dv 0) (da_cons de_int da_nil))) de_int))).pt (dss_one (ds_ret (de_ix (dv 1) (de_call (c__law_take.mono (Nat.le_refl k)) hr (da_cons (dv 0) (da_cons (de_callB len_D T.z_len (da_cons (dv 1) da_nil)) da_nil)))))) dss_nil)
    (dss_cons (ds_set 2 sc__law_pick.nd (de_tup (da_cons de_str (da_cons (de_call (c__law_take.mono (Nat.le_refl k)) hr (da_cons (dv 0) (da_cons de_int da_nil))) da_nil))))
    (dss_one (ds_ret (de_tup (da_cons (dv 2) (da_cons (dv 2) da_nil))))))), h⟩
/-! ### _law_make -/
abbrev N__law_make : List Str := ["draw", "heap", "store", "roots", "kind", "many", "word", "fields", "value", "k", "one"]
theorem sc__law_make : FnScope N__law_make ["draw", "heap", "store", "roots"] (defScope s__law_make) := ⟨rfl, rfl, rfl, by decide +kernel, rfl, by decide +kernel, by decide +kernel⟩
def R__law_make (K : PySem.W.Frag) (C_Heap C_Moving : Addr) (S__law_take S__law_pick S_Heap_make : DSp) : DTS :=
    (dSeq (dAsg (dOp oIx (dLst (dCons (dC (.str "tuple")) (dCons (dC (.str "make")) (dCons (dC (.str "pack")) (dCons (dC (.str "close")) (dCons (dC (.str "ref")) (dCons (dC (.str "ref")) dNil))))))) (dCall S__law_take (dCons (dVar 0) (dCons (dC (.int 6)) dNil)))) (gN 4))
    (dSeq (dAsg (dC (.int 1)) (gN 5))
    (dSeq (dIf (dB (dOp oEq (dVar 4) (dC (.str "tuple")))) (dAsg (dOp oAdd (dC (.int 1)) (dCall S__law_take (dCons (dVar 0) (dCons (dC (.int 3)) dNil)))) (gN 5)) dNext)
    (dSeq (dAsg (dC (.int 0)) (gN 6))
    (dSeq (dIf (dB (dOp (oIn false) (dVar 4) (dTup (dCons (dC (.str "make")) (dCons (dC (.str "pack")) (dCons (dC (.str "close")) dNil)))))) (dAsg (dCall S__law_take (dCons (dVar 0) (dCons (dC (.int 5)) dNil))) (gN 6)) dNext)
    (dSeq (dAsg (dLc (iR1 (dCons (dVar 5) dNil)) (gN 9) dYes (dCall S__law_pick (dCons (dVar 0) (dCons (dVar 3) dNil))) [9]) (gN 7))
    (dSeq (dAsg (dMeth C_Heap "make" S_Heap_make (dVar 1) (dCons (dVar 4) (dCons (dVar 6) (dCons (dCB oTupOf (dCons (dLc (iL (dVar 7)) (gN 10) dYes (dOp oIx (dVar 10) (dC (.int 0))) [10]) dNil)) dNil)))) (gN 8))
    (dSeq (dDrop (dBM "list" mAppend (dVar 2) (dCons (dTup (dCons (dVar 4) (dCons (dVar 6) (dCons (dCB oTupOf (dCons (dLc (iL (dVar 7)) (gN 10) dYes (dOp oIx (dVar 10) (dC (.int 1))) [10]) dNil)) dNil)))) dNil)))
    (dRet (dTup (dCons (dVar 8) (dCons (dTup (dCons (dC (.str "no")) (dCons (dOp oSub (dCB oLen (dCons (dVar 2) dNil)) (dC (.int 1))) dNil))) dNil))))))))))))
@[simp] theorem st__law_make (a0 : D) (a1 : D) (a2 : D) (a3 : D) : startD N__law_make [a0, a1, a2, a3] = [some a0, some a1, some a2, some a3, none, none, none, none, none, none, none] := rfl
theorem w__law_make {P : Program} {w : World} {K : PySem.W.Frag} {mg : Str → Option Value} {base : Heap} {k : Nat} {C_Heap C_Moving : Addr} (T : Top K mg C_Heap C_Moving) {S__law_take S__law_pick S_Heap_make : DSp} (c__law_take : Cal P w K mg base k "_law_take" S__law_take) (c__law_pick : Cal P w K mg base k "_law_pick" S__law_pick) (c_Heap_make : MCal P w K mg base k C_Heap "make" S_Heap_make) {sp : DSp} (len : ∀ ds St Q, sp ds St Q → ds.length = 4)
    (h : ∀ ds St Q, sp ds St Q → (R__law_make K C_Heap C_Moving S__law_take S__law_pick S_Heap_make) { nx := fun _ S' => Q.less .non S', rt := Q.less } (startD N__law_make ds) St) : Cal P w K mg base (k + 1) "_law_make" sp :=
  T.d__law_make.ok sc__law_make len fun f cdv A outer s H E hr => ⟨(R__law_make K C_Heap C_Moving S__law_take S__law_pick S_Heap_make), (dss_cons (ds_set 4 sc__law_make.nd (de_ix (de_lst (da_cons de_str (da_cons de_str (da_cons de_str (da_cons de_str (da_cons de_str (da_cons de_str da_nil))))))) (de_call (c__law_take.mono (Nat.le_refl k)) hr (da_cons (dv 0) (da_cons de_int da_nil)))))
    (dss_cons (ds_set 5 sc__law_make.nd de_int)
    (dss_cons (ds_if (dt_cmp (eq_D hr.units) (dv 4) de_str) (dss_one (ds_set 5 sc__law_make.nd (de_op add_D de_int (de_call (c__law_take.mono (Nat.le_refl k)) hr (da_cons (dv 0) (da_cons de_int da_nil)))))) dss_nil)
    (dss_cons (ds_set 6 sc__law_make.nd de_int)
    (dss_cons (ds_if (dt_cmp in_D (dv 4) (de_tup (da_cons de_str (da_cons de_str (da_cons de_str da_nil))))) (dss_one (ds_set 6 sc__law_make.nd (de_call (c__law_take.mono (Nat.le_refl k)) hr (da_cons (dv 0) (da_cons de_int da_nil))))) dss_nil)
    (dss_cons (ds_setLc 7 (own := [("k", 9)]) sc__law_make.nd (di_range1 T.z_range (da_cons (dv 5) da_nil)) (blkOk_by (N := N__law_make) (sc := defScope s__law_make) (by decide +kernel)) (fun _ _ _ _ _ => (dgc_name 9 sc__law_make.nd)) (fun _ _ _ _ _ => dts_nil) (fun _ _ _ _ _ => (de_call (c__law_pick.mono (Nat.le_refl k)) hr (da_cons (dv 0) (da_cons (dv 3) da_nil)))))
    (dss_cons (ds_set 8 sc__law_make.nd (de_meth (c_Heap_make.mono (Nat.le_refl k)) hr (dv 1) (da_cons (dv 4) (da_cons (dv 6) (da_cons (de_callTy tuple_D T.z_tuple (da_cons (de_lc (own := [("one", 10)]) sc__law_make.nd (di_list (dv 7)) (blkOk_by (N := N__law_make) (sc := defScope s__law_make) (by decide +kernel)) (fun _ _ _ _ _ => (dgc_name 10 sc__law_make.nd)) (fun _ _ _ _ _ => dts_nil) (fun _ _ _ _ _ => (de_ix (dv 10) de_int))) da_nil)) da_nil)))))
    (dss_cons (ds_expr (de_bm PySem.F.plainAttrs_list PySem.F.slot_list_append PySem.F.type_list_append append_D (dv 2) (da_cons (de_tup (da_cons (dv 4) (da_cons (dv 6) (da_cons (de_callTy tuple_D T.z_tuple (da_cons (de_lc (own := [("one", 10)]) sc__law_make.nd (di_list (dv 7)) (blkOk_by (N := N__law_make) (sc := defScope s__law_make) (by decide +kernel)) (fun _ _ _ _ _ => (dgc_name 10 sc__law_make.nd)) (fun _ _ _ _ _ => dts_nil) (fun _ _ _ _ _ => (de_ix (dv 10) de_int))) da_nil)) da_nil)))) da_nil)))
    (dss_one (ds_ret (de_tup (da_cons (dv 8) (da_cons (de_tup (da_cons de_str (da_cons (de_op sub_D (de_callB len_D T.z_len (da_cons (dv 2) da_nil)) de_int) da_nil))) da_nil))))))))))))), h⟩
/-! ### law -/
abbrev N_law : List Str := ["script", "draw", "room", "heap", "other", "value", "store", "roots", "fresh", "k", "full", "which", "refs", "one", "content", "moved", "j"]
theorem sc_law : FnScope N_law ["script"] (defScope s_law) := ⟨rfl, rfl, rfl, by decide +kernel, rfl, by decide +kernel, by decide +kernel⟩
def R_law (K : PySem.W.Frag) (C_Heap C_Moving : Addr) (S__law_draw S__law_take S_Heap S_Heap_make S_Heap_is_full S_Heap_counts S__law_pick S_Heap_store S_Heap_minor S_Heap_major S__law_make S__law_alike S_Heap_look : DSp) : DTS :=
    (dSeq (dAsg (dCall S__law_draw (dCons (dVar 0) dNil)) (gN 1))
    (dSeq (dAsg (dOp oAdd (dC (.int 1)) (dCall S__law_take (dCons (dVar 1) (dCons (dC (.int 6)) dNil)))) (gN 2))
    (dSeq (dAsg (dMake C_Heap S_Heap (dCons (dVar 2) dNil)) (gN 3))
    (dSeq (dAsg (dMake C_Heap S_Heap (dCons (dC (.int 2)) dNil)) (gN 4))
    (dSeq (dAsg (dMeth C_Heap "make" S_Heap_make (dVar 4) (dCons (dC (.str "ref")) (dCons (dC (.int 0)) (dCons (dTup (dCons (dTup (dCons (dC (.str "int")) (dCons (dC (.int 7)) dNil))) dNil)) dNil)))) (gN 5))
    (dSeq (dAsg (dLst dNil) (gN 6))
    (dSeq (dAsg (dLst dNil) (gN 7))
    (dSeq (dAsg (dC (.int 0)) (gN 8))
    (dSeq (dFor (iR1 (dCons (dOp oAdd (dC (.int 5)) (dCall S__law_take (dCons (dVar 1) (dCons (dC (.int 60)) dNil)))) dNil)) (gN 9) (dSeq (dAsg (dMeth C_Heap "is_full" S_Heap_is_full (dVar 3) dNil) (gN 10))
    (dSeq (dIf (dOr (dNot (dTru (dIsi "bool" (dVar 10)))) (dOr (dB (dOp oNe (dVar 10) (dOp oEq (dVar 8) (dVar 2)))) (dB (dOp oNe (dOp oIx (dMeth C_Heap "counts" S_Heap_counts (dVar 3) dNil) (dC (.int 0))) (dVar 8))))) (dRet (dC (.bl false))) dNext)
    (dSeq (dAsg (dCall S__law_take (dCons (dVar 1) (dCons (dC (.int 8)) dNil))) (gN 11))
    (dSeq (dAsg (dLc (iL (dVar 7)) (gN 13) (dAnd (dB (dOp oEq (dOp oIx (dOp oIx (dVar 13) (dC (.int 1))) (dC (.int 0))) (dC (.str "no")))) (dB (dOp oEq (dOp oIx (dOp oIx (dVar 6) (dOp oIx (dOp oIx (dVar 13) (dC (.int 1))) (dC (.int 1)))) (dC (.int 0))) (dC (.str "ref"))))) (dVar 13) [13]) (gN 12))
    (dSeq (dIf (dAnd (dB (dOp oEq (dVar 11) (dC (.int 0)))) (dB (dOp oGt (dCB oLen (dCons (dVar 7) dNil)) (dC (.int 0))))) (dAsg (dSl (dVar 7) (dPart (dC (.int 1))) dNoP) (gN 7)) (dIf (dAnd (dB (dOp oLt (dVar 11) (dC (.int 3)))) (dB (dOp oGt (dCB oLen (dCons (dVar 12) dNil)) (dC (.int 0))))) (dSeq (dAsg (dOp oIx (dVar 12) (dCall S__law_take (dCons (dVar 1) (dCons (dCB oLen (dCons (dVar 12) dNil)) dNil)))) (gN 13))
    (dSeq (dAsg (dCall S__law_pick (dCons (dVar 1) (dCons (dVar 7) dNil))) (gN 14))
    (dSeq (dDrop (dMeth C_Heap "store" S_Heap_store (dVar 3) (dCons (dOp oIx (dVar 13) (dC (.int 0))) (dCons (dOp oIx (dVar 14) (dC (.int 0))) dNil))))
    (dAsg (dTup (dCons (dC (.str "ref")) (dCons (dC (.int 0)) (dCons (dTup (dCons (dOp oIx (dVar 14) (dC (.int 1))) dNil)) dNil)))) (gIxD (dVar 6) (dOp oIx (dOp oIx (dVar 13) (dC (.int 1))) (dC (.int 1))) oSetL))))) (dIf (dOr (dB (dOp oEq (dVar 11) (dC (.int 3)))) (dB (dOp oEq (dVar 8) (dVar 2)))) (dSeq (dAsg (dMeth C_Heap "minor" S_Heap_minor (dVar 3) (dCons (dCB oTupOf (dCons (dLc (iL (dVar 7)) (gN 13) dYes (dOp oIx (dVar 13) (dC (.int 0))) [13]) dNil)) dNil)) (gN 15))
    (dSeq (dIf (dB (dOp oEq (dVar 11) (dC (.int 4)))) (dSeq (dAsg (dMeth C_Heap "major" S_Heap_major (dVar 3) (dCons (dVar 15) dNil)) (gN 15))
    (dIf (dOr (dB (dOp oGt (dOp oIx (dMeth C_Heap "counts" S_Heap_counts (dVar 3) dNil) (dC (.int 1))) (dCB oLen (dCons (dVar 6) dNil)))) (dB (dOp oNe (dOp oIx (dMeth C_Heap "counts" S_Heap_counts (dVar 3) dNil) (dC (.int 0))) (dC (.int 0))))) (dRet (dC (.bl false))) dNext)) dNext)
    (dSeq (dAsg (dLc (iE (dCons (dVar 7) dNil)) (gT 2 (gsCons (gN 16) (gsCons (gN 13) gsNil))) dYes (dTup (dCons (dOp oIx (dVar 15) (dVar 16)) (dCons (dOp oIx (dVar 13) (dC (.int 1))) dNil))) [16, 13]) (gN 7))
    (dAsg (dC (.int 0)) (gN 8))))) (dSeq (dAsg (dSl (dOp oAdd (dVar 7) (dLst (dCons (dCall S__law_make (dCons (dVar 1) (dCons (dVar 3) (dCons (dVar 6) (dCons (dVar 7) dNil))))) dNil))) (dPart (dUn oNeg (dC (.int 6)))) dNoP) (gN 7))
    (dAsg (dOp oAdd (dVar 8) (dC (.int 1))) (gN 8))))))
    (dFor (iL (dVar 7)) (gN 13) (dIf (dNot (dTru (dCall S__law_alike (dCons (dOp oIx (dVar 13) (dC (.int 0))) (dCons (dOp oIx (dVar 13) (dC (.int 1))) (dCons (dVar 3) (dCons (dVar 6) (dCons (dC (.int 5)) dNil)))))))) (dRet (dC (.bl false))) dNext))))))))
    (dRet (dAndV (dOp oEq (dMeth C_Heap "counts" S_Heap_counts (dVar 4) dNil) (dTup (dCons (dC (.int 1)) (dCons (dC (.int 0)) (dCons (dC (.int 0)) dNil))))) (dOp oEq (dMeth C_Heap "look" S_Heap_look (dVar 4) (dCons (dVar 5) dNil)) (dTup (dCons (dC (.str "ref")) (dCons (dC (.int 0)) (dCons (dTup (dCons (dTup (dCons (dC (.str "int")) (dCons (dC (.int 7)) dNil))) dNil)) dNil))))))))))))))))
@[simp] theorem st_law (a0 : D) : startD N_law [a0] = [some a0, none, none, none, none, none, none, none, none, none, none, none, none, none, none, none, none] := rfl
theorem w_law {P : Program} {w : World} {K : PySem.W.Frag} {mg : Str → Option Value} {base : Heap} {k : Nat} {C_Heap C_Moving : Addr} (T : Top K mg C_Heap C_Moving) {f : Addr} {fd : FuncData} (F : FnD K "law" "law" s_law f fd) {S__law_draw S__law_take S_Heap S_Heap_make S_Heap_is_full S_Heap_counts S__law_pick S_Heap_store S_Heap_minor S_Heap_major S__law_make S__law_alike S_Heap_look : DSp} (c__law_draw : Cal P w K mg base k "_law_draw" S__law_draw) (c__law_take : Cal P w K mg base k "_law_take" S__law_take) (c_Heap : NCal P w K mg base k C_Heap "Heap" S_Heap) (c_Heap_make : MCal P w K mg base k C_Heap "make" S_Heap_make) (c_Heap_is_full : MCal P w K mg base k C_Heap "is_full" S_Heap_is_full) (c_Heap_counts : MCal P w K mg base k C_Heap "counts" S_Heap_counts) (c__law_pick : Cal P w K mg base k "_law_pick" S__law_pick) (c_Heap_store : MCal P w K mg base k C_Heap "store" S_Heap_store) (c_Heap_minor : MCal P w K mg base k C_Heap "minor" S_Heap_minor) (c_Heap_major : MCal P w K mg base k C_Heap "major" S_Heap_major) (c__law_make : Cal P w K mg base k "_law_make" S__law_make) (c__law_alike : Cal P w K mg base k "_law_alike" S__law_alike) (c_Heap_look : MCal P w K mg base k C_Heap "look" S_Heap_look) {sp : DSp} (len : ∀ ds St Q, sp ds St Q → ds.length = 1)
    (h : ∀ ds St Q, sp ds St Q → (R_law K C_Heap C_Moving S__law_draw S__law_take S_Heap S_Heap_make S_Heap_is_full S_Heap_counts S__law_pick S_Heap_store S_Heap_minor S_Heap_major S__law_make S__law_alike S_Heap_look) { nx := fun _ S' => Q.less .non S', rt := Q.less } (startD N_law ds) St) : FnOk P w K mg base CX0 (k + 2) f fd ["script"] (fun vs H Q _ => lC K sp vs H Q) :=
  fnok F sc_law len fun cdv A outer s H E hr => ⟨(R_law K C_Heap C_Moving S__law_draw S__law_take S_Heap S_Heap_make S_Heap_is_full S_Heap_counts S__law_pick S_Heap_store S_Heap_minor S_Heap_major S__law_make S__law_alike S_Heap_look), (dss_cons (ds_set 1 sc_law.nd (de_call (c__law_draw.mono (Nat.le_succ k)) hr (da_cons (dv 0) da_nil)))
    (dss_cons (ds_set 2 sc_law.nd (de_op add_D de_int (de_call (c__law_take.mono (Nat.le_succ k)) hr (da_cons (dv 1) (da_cons de_int da_nil)))))
    (dss_cons (ds_set 3 sc_law.nd (de_make c_Heap hr (da_cons (dv 2) da_nil)))
    (dss_cons (ds_set 4 sc_law.nd (de_make c_Heap hr (da_cons de_int da_nil)))
    (dss_cons (ds_set 5 sc_law.nd (de_meth (c_Heap_make.mono (Nat.le_succ k)) hr (dv 4) (da_cons de_str (da_cons de_int (da_cons (de_tup (da_cons (de_tup (da_cons de_str (da_cons de_int da_nil))) da_nil)) da_nil)))))
    (dss_cons (ds_set 6 sc_law.nd (de_lst da_nil))
    (dss_cons (ds_set 7 sc_law.nd (de_lst da_nil))
    (dss_cons (ds_set 8 sc_law.nd de_int)
    (dss_cons (ds_for (di_range1 T.z_range (da_cons (de_op add_D de_int (de_call (c__law_take.mono (Nat.le_succ k)) hr (da_cons (dv 1) (da_cons de_int da_nil)))) da_nil)) (dg_name 9 sc_law.nd) (dss_cons (ds_set 10 sc_law.nd (de_meth0 (c_Heap_is_full.mono (Nat.le_succ k)) hr (dv 3)))
    (dss_cons (ds_if (dw_or (dt_not (dt_tru (de_isi T.z_isinstance (dv 10) T.z_bool))) (dw_or (dt_cmp (ne_D hr.units) (dv 10) (de_cmp (eq_D hr.units) (dv 8) (dv 2))) (dw_or1 (dt_cmp (ne_D hr.units) (de_ix (de_meth0 (c_Heap_counts.mono (Nat.le_succ k)) hr (dv 3)) de_int) (dv 8))))).pt (dss_one (ds_ret de_bl)) dss_nil)
    (dss_cons (ds_set 11 sc_law.nd (de_call (c__law_take.mono (Nat.le_succ k)) hr (da_cons (dv 1) (da_cons de_int da_nil))))
    (dss_cons (ds_setLc 12 (own := [("one", 13)]) sc_law.nd (di_list (dv 7)) (blkOk_by (N := N_law) (sc := defScope s_law) (by decide +kernel)) (fun _ _ _ _ _ => (dgc_name 13 sc_law.nd)) (fun _ _ _ _ _ => (dts_one (dw_and (dt_cmp (eq_D hr.units) (de_ix (de_ix (dv 13) de_int) de_int) de_str) (dw_and1 (dt_cmp (eq_D hr.units) (de_ix (de_ix (dv 6) (de_ix (de_ix (dv 13) de_int) de_int)) de_int) de_str))).pt)) (fun _ _ _ _ _ => (dv 13)))
    (dss_cons (ds_if (dw_and (dt_cmp (eq_D hr.units) (dv 11) de_int) (dw_and1 (dt_cmp gt_D (de_callB len_D T.z_len (da_cons (dv 7) da_nil)) de_int))).pt (dss_one (ds_set 7 sc_law.nd (de_slice (dv 7) (dp_some de_int) dp_none))) (dss_one (ds_if (dw_and (dt_cmp lt_D (dv 11) de_int) (dw_and1 (dt_cmp gt_D (de_callB len_D T.z_len (da_cons (dv 12) da_nil)) de_int))).pt (dss_cons (ds_set 13 sc_law.nd (de_ix (dv 12) (de_call (c__law_take.mono (Nat.le_succ k)) hr (da_cons (dv 1) (da_cons (de_callB len_D T.z_len (da_cons (dv 12) da_nil)) da_nil)))))
    (dss_cons (ds_set 14 sc_law.nd (de_call (c__law_pick.mono (Nat.le_succ k)) hr (da_cons (dv 1) (da_cons (dv 7) da_nil))))
    (dss_cons (ds_expr (de_meth (c_Heap_store.mono (Nat.le_succ k)) hr (dv 3) (da_cons (de_ix (dv 13) de_int) (da_cons (de_ix (dv 14) de_int) da_nil))))
    (dss_one (ds_asg (de_tup (da_cons de_str (da_cons de_int (da_cons (de_tup (da_cons (de_ix (dv 14) de_int) da_nil)) da_nil)))) (dg_ix (dv 6) (de_ix (de_ix (dv 13) de_int) de_int))))))) (dss_one (ds_if (dw_or (dt_cmp (eq_D hr.units) (dv 11) de_int) (dw_or1 (dt_cmp (eq_D hr.units) (dv 8) (dv 2)))).pt (dss_cons (ds_set 15 sc_law.nd (de_meth (c_Heap_minor.mono (Nat.le_succ k)) hr (dv 3) (da_cons (de_callTy tuple_D T.z_tuple (da_cons (de_lc (own := [("one", 13)]) sc_law.nd (di_list (dv 7)) (blkOk_by (N := N_law) (sc := defScope s_law) (by decide +kernel)) (fun _ _ _ _ _ => (dgc_name 13 sc_law.nd)) (fun _ _ _ _ _ => dts_nil) (fun _ _ _ _ _ => (de_ix (dv 13) de_int))) da_nil)) da_nil)))
    (dss_cons (ds_if (dt_cmp (eq_D hr.units) (dv 11) de_int) (dss_cons (ds_set 15 sc_law.nd (de_meth (c_Heap_major.mono (Nat.le_succ k)) hr (dv 3) (da_cons (dv 15) da_nil)))
    (dss_one (ds_if (dw_or (dt_cmp gt_D (de_ix (de_meth0 (c_Heap_counts.mono (Nat.le_succ k)) hr (dv 3)) de_int) (de_callB len_D T.z_len (da_cons (dv 6) da_nil))) (dw_or1 (dt_cmp (ne_D hr.units) (de_ix (de_meth0 (c_Heap_counts.mono (Nat.le_succ k)) hr (dv 3)) de_int) de_int))).pt (dss_one (ds_ret de_bl)) dss_nil))) dss_nil)
    (dss_cons (ds_setLc 7 (own := [("j", 16), ("one", 13)]) sc_law.nd (di_enum T.z_enumerate (da_cons (dv 7) da_nil)) (blkOk_by (N := N_law) (sc := defScope s_law) (by decide +kernel)) (fun _ _ _ _ _ => (dgc_tup (dgcs_cons (dgc_name 16 sc_law.nd) (dgcs_cons (dgc_name 13 sc_law.nd) dgcs_nil)) rfl)) (fun _ _ _ _ _ => dts_nil) (fun _ _ _ _ _ => (de_tup (da_cons (de_ix (dv 15) (dv 16)) (da_cons (de_ix (dv 13) de_int) da_nil)))))
    (dss_one (ds_set 8 sc_law.nd de_int))))) (dss_cons (ds_set 7 sc_law.nd (de_slice (de_op add_D (dv 7) (de_lst (da_cons (de_call (c__law_make.mono (Nat.le_succ k)) hr (da_cons (dv 1) (da_cons (dv 3) (da_cons (dv 6) (da_cons (dv 7) da_nil))))) da_nil))) (dp_some (de_un neg_D de_int)) dp_none))
    (dss_one (ds_set 8 sc_law.nd (de_op add_D (dv 8) de_int)))))))))
    (dss_one (ds_for (di_list (dv 7)) (dg_name 13 sc_law.nd) (dss_one (ds_if (dt_not (dt_tru (de_call (c__law_alike.mono (Nat.le_succ k)) hr (da_cons (de_ix (dv 13) de_int) (da_cons (de_ix (dv 13) de_int) (da_cons (dv 3) (da_cons (dv 6) (da_cons de_int da_nil)))))))) (dss_one (ds_ret de_bl)) dss_nil))))))))))
    (dss_one (ds_ret (de_and (de_cmp (eq_D hr.units) (de_meth0 (c_Heap_counts.mono (Nat.le_succ k)) hr (dv 4)) (de_tup (da_cons de_int (da_cons de_int (da_cons de_int da_nil))))) (de_one (de_cmp (eq_D hr.units) (de_meth (c_Heap_look.mono (Nat.le_succ k)) hr (dv 4) (da_cons (dv 5) da_nil)) (de_tup (da_cons de_str (da_cons de_int (da_cons (de_tup (da_cons (de_tup (da_cons de_str (da_cons de_int da_nil))) da_nil)) da_nil)))))))))))))))))), h⟩
/-! ### the head -/
def fn : List He.DefD := [
  ⟨("Heap", some "__init__"), "__init__", "Heap.__init__", defArgs s_Heap___init__, defBody s_Heap___init__, defScope s_Heap___init__, [], []⟩,
  ⟨("Heap", some "is_full"), "is_full", "Heap.is_full", defArgs s_Heap_is_full, defBody s_Heap_is_full, defScope s_Heap_is_full, [], []⟩,
  ⟨("Heap", some "make"), "make", "Heap.make", defArgs s_Heap_make, defBody s_Heap_make, defScope s_Heap_make, [], []⟩,
  ⟨("Heap", some "look"), "look", "Heap.look", defArgs s_Heap_look, defBody s_Heap_look, defScope s_Heap_look, [], []⟩,
  ⟨("Heap", some "store"), "store", "Heap.store", defArgs s_Heap_store, defBody s_Heap_store, defScope s_Heap_store, [], []⟩,
  ⟨("Heap", some "counts"), "counts", "Heap.counts", defArgs s_Heap_counts, defBody s_Heap_counts, defScope s_Heap_counts, [], []⟩,
  ⟨("Heap", some "minor"), "minor", "Heap.minor", defArgs s_Heap_minor, defBody s_Heap_minor, defScope s_Heap_minor, [], []⟩,
  ⟨("Heap", some "reached"), "reached", "Heap.reached", defArgs s_Heap_reached, defBody s_Heap_reached, defScope s_Heap_reached, [], []⟩,
  ⟨("Heap", some "major"), "major", "Heap.major", defArgs s_Heap_major, defBody s_Heap_major, defScope s_Heap_major, [], []⟩,
  ⟨("Moving", some "__init__"), "__init__", "Moving.__init__", defArgs s_Moving___init__, defBody s_Moving___init__, defScope s_Moving___init__, [], []⟩,
  ⟨("Moving", some "value"), "value", "Moving.value", defArgs s_Moving_value, defBody s_Moving_value, defScope s_Moving_value, [], []⟩,
  ⟨("Moving", some "adjust"), "adjust", "Moving.adjust", defArgs s_Moving_adjust, defBody s_Moving_adjust, defScope s_Moving_adjust, [], []⟩,
  ⟨("is_young", none), "is_young", "is_young", defArgs s_is_young, defBody s_is_young, defScope s_is_young, [], []⟩,
  ⟨("placed", none), "placed", "placed", defArgs s_placed, defBody s_placed, defScope s_placed, [], []⟩,
  ⟨("_law_draw", none), "_law_draw", "_law_draw", defArgs s__law_draw, defBody s__law_draw, defScope s__law_draw, [], []⟩,
  ⟨("_law_take", none), "_law_take", "_law_take", defArgs s__law_take, defBody s__law_take, defScope s__law_take, [], []⟩,
  ⟨("_law_alike", none), "_law_alike", "_law_alike", defArgs s__law_alike, defBody s__law_alike, defScope s__law_alike, [], []⟩,
  ⟨("_law_pick", none), "_law_pick", "_law_pick", defArgs s__law_pick, defBody s__law_pick, defScope s__law_pick, [], []⟩,
  ⟨("_law_make", none), "_law_make", "_law_make", defArgs s__law_make, defBody s__law_make, defScope s__law_make, [], []⟩,
  ⟨("law", none), "law", "law", defArgs s_law, defBody s_law, defScope s_law, [], []⟩]
def fa : List He.Fa := [.mkr "Heap", .glo "Heap", .meth "Heap" "is_full", .meth "Heap" "make", .meth "Heap" "look", .meth "Heap" "store", .meth "Heap" "counts", .meth "Heap" "minor", .meth "Heap" "reached", .meth "Heap" "major", .mkr "Moving", .glo "Moving", .meth "Moving" "value", .meth "Moving" "adjust", .glo "is_young", .glo "placed", .glo "_law_draw", .glo "_law_take", .glo "_law_alike", .glo "_law_pick", .glo "_law_make", .glo "law", .cls "Heap", .noat "Heap" "room", .noat "Heap" "young", .noat "Heap" "old", .noat "Heap" "remembered", .cls "Moving", .noat "Moving" "heap", .noat "Moving" "places", .free "abs", .free "bool", .free "enumerate", .free "int", .free "isinstance", .free "len", .free "list", .free "range", .free "sorted", .free "tuple"]
theorem top_of {K : PySem.W.Frag} {h : Heap} {mg : Str → Option Value} (X : K.In h) (G : h.Ns mainGlobals mg) (c : He.SaysD fa fn K) : Top K mg (He.ga K "Heap") (He.ga K "Moving") where
  i_Heap := let ⟨_, F⟩ := (c.def_ 0 rfl); ⟨_, _, F, He.mkr_ok (c.fact 0 (f := .mkr "Heap") rfl), He.glo_ok X G (c.fact 1 (f := .glo "Heap") rfl), (FunD.bindsN (ps := ["self", "young"]) F fun _ _ _ _ _ _ us hl => match us, hl with | [_, _], _ => rfl)⟩
  m_Heap_is_full := let ⟨_, F⟩ := (c.def_ 1 rfl); ⟨_, _, F, He.meth_ok (c.fact 2 (f := .meth "Heap" "is_full") rfl), (FunD.bindsN (ps := ["self"]) F fun _ _ _ _ _ _ us hl => match us, hl with | [_], _ => rfl)⟩
  m_Heap_make := let ⟨_, F⟩ := (c.def_ 2 rfl); ⟨_, _, F, He.meth_ok (c.fact 3 (f := .meth "Heap" "make") rfl), (FunD.bindsN (ps := ["self", "kind", "word", "fields"]) F fun _ _ _ _ _ _ us hl => match us, hl with | [_, _, _, _], _ => rfl)⟩
  m_Heap_look := let ⟨_, F⟩ := (c.def_ 3 rfl); ⟨_, _, F, He.meth_ok (c.fact 4 (f := .meth "Heap" "look") rfl), (FunD.bindsN (ps := ["self", "value"]) F fun _ _ _ _ _ _ us hl => match us, hl with | [_, _], _ => rfl)⟩
  m_Heap_store := let ⟨_, F⟩ := (c.def_ 4 rfl); ⟨_, _, F, He.meth_ok (c.fact 5 (f := .meth "Heap" "store") rfl), (FunD.bindsN (ps := ["self", "value", "content"]) F fun _ _ _ _ _ _ us hl => match us, hl with | [_, _, _], _ => rfl)⟩
  m_Heap_counts := let ⟨_, F⟩ := (c.def_ 5 rfl); ⟨_, _, F, He.meth_ok (c.fact 6 (f := .meth "Heap" "counts") rfl), (FunD.bindsN (ps := ["self"]) F fun _ _ _ _ _ _ us hl => match us, hl with | [_], _ => rfl)⟩
  m_Heap_minor := let ⟨_, F⟩ := (c.def_ 6 rfl); ⟨_, _, F, He.meth_ok (c.fact 7 (f := .meth "Heap" "minor") rfl), (FunD.bindsN (ps := ["self", "roots"]) F fun _ _ _ _ _ _ us hl => match us, hl with | [_, _], _ => rfl)⟩
  m_Heap_reached := let ⟨_, F⟩ := (c.def_ 7 rfl); ⟨_, _, F, He.meth_ok (c.fact 8 (f := .meth "Heap" "reached") rfl), (FunD.bindsN (ps := ["self", "roots"]) F fun _ _ _ _ _ _ us hl => match us, hl with | [_, _], _ => rfl)⟩
  m_Heap_major := let ⟨_, F⟩ := (c.def_ 8 rfl); ⟨_, _, F, He.meth_ok (c.fact 9 (f := .meth "Heap" "major") rfl), (FunD.bindsN (ps := ["self", "roots"]) F fun _ _ _ _ _ _ us hl => match us, hl with | [_, _], _ => rfl)⟩
  i_Moving := let ⟨_, F⟩ := (c.def_ 9 rfl); ⟨_, _, F, He.mkr_ok (c.fact 10 (f := .mkr "Moving") rfl), He.glo_ok X G (c.fact 11 (f := .glo "Moving") rfl), (FunD.bindsN (ps := ["self", "heap"]) F fun _ _ _ _ _ _ us hl => match us, hl with | [_, _], _ => rfl)⟩
  m_Moving_value := let ⟨_, F⟩ := (c.def_ 10 rfl); ⟨_, _, F, He.meth_ok (c.fact 12 (f := .meth "Moving" "value") rfl), (FunD.bindsN (ps := ["self", "value"]) F fun _ _ _ _ _ _ us hl => match us, hl with | [_, _], _ => rfl)⟩
  m_Moving_adjust := let ⟨_, F⟩ := (c.def_ 11 rfl); ⟨_, _, F, He.meth_ok (c.fact 13 (f := .meth "Moving" "adjust") rfl), (FunD.bindsN (ps := ["self", "address"]) F fun _ _ _ _ _ _ us hl => match us, hl with | [_, _], _ => rfl)⟩
  d_is_young := let ⟨_, F⟩ := (c.def_ 12 rfl); ⟨_, _, F, He.glo_ok X G (c.fact 14 (f := .glo "is_young") rfl), (FunD.bindsN (ps := ["value"]) F fun _ _ _ _ _ _ us hl => match us, hl with | [_], _ => rfl)⟩
  d_placed := let ⟨_, F⟩ := (c.def_ 13 rfl); ⟨_, _, F, He.glo_ok X G (c.fact 15 (f := .glo "placed") rfl), (FunD.bindsN (ps := ["value", "places"]) F fun _ _ _ _ _ _ us hl => match us, hl with | [_, _], _ => rfl)⟩
  d__law_draw := let ⟨_, F⟩ := (c.def_ 14 rfl); ⟨_, _, F, He.glo_ok X G (c.fact 16 (f := .glo "_law_draw") rfl), (FunD.bindsN (ps := ["script"]) F fun _ _ _ _ _ _ us hl => match us, hl with | [_], _ => rfl)⟩
  d__law_take := let ⟨_, F⟩ := (c.def_ 15 rfl); ⟨_, _, F, He.glo_ok X G (c.fact 17 (f := .glo "_law_take") rfl), (FunD.bindsN (ps := ["draw", "many"]) F fun _ _ _ _ _ _ us hl => match us, hl with | [_, _], _ => rfl)⟩
  d__law_alike := let ⟨_, F⟩ := (c.def_ 16 rfl); ⟨_, _, F, He.glo_ok X G (c.fact 18 (f := .glo "_law_alike") rfl), (FunD.bindsN (ps := ["value", "twin", "heap", "store", "deep"]) F fun _ _ _ _ _ _ us hl => match us, hl with | [_, _, _, _, _], _ => rfl)⟩
  d__law_pick := let ⟨_, F⟩ := (c.def_ 17 rfl); ⟨_, _, F, He.glo_ok X G (c.fact 19 (f := .glo "_law_pick") rfl), (FunD.bindsN (ps := ["draw", "roots"]) F fun _ _ _ _ _ _ us hl => match us, hl with | [_, _], _ => rfl)⟩
  d__law_make := let ⟨_, F⟩ := (c.def_ 18 rfl); ⟨_, _, F, He.glo_ok X G (c.fact 20 (f := .glo "_law_make") rfl), (FunD.bindsN (ps := ["draw", "heap", "store", "roots"]) F fun _ _ _ _ _ _ us hl => match us, hl with | [_, _, _, _], _ => rfl)⟩
  d_law := let ⟨_, F⟩ := (c.def_ 19 rfl); ⟨_, _, F, He.glo_ok X G (c.fact 21 (f := .glo "law") rfl), (FunD.bindsN (ps := ["script"]) F fun _ _ _ _ _ _ us hl => match us, hl with | [_], _ => rfl)⟩
  c_Heap := He.cls_ok (c.fact 22 (f := .cls "Heap") rfl)
  f_Heap_room := ⟨He.cls_ok (c.fact 22 (f := .cls "Heap") rfl), He.noat_ok (c.fact 23 (f := .noat "Heap" "room") rfl)⟩
  f_Heap_young := ⟨He.cls_ok (c.fact 22 (f := .cls "Heap") rfl), He.noat_ok (c.fact 24 (f := .noat "Heap" "young") rfl)⟩
  f_Heap_old := ⟨He.cls_ok (c.fact 22 (f := .cls "Heap") rfl), He.noat_ok (c.fact 25 (f := .noat "Heap" "old") rfl)⟩
  f_Heap_remembered := ⟨He.cls_ok (c.fact 22 (f := .cls "Heap") rfl), He.noat_ok (c.fact 26 (f := .noat "Heap" "remembered") rfl)⟩
  c_Moving := He.cls_ok (c.fact 27 (f := .cls "Moving") rfl)
  f_Moving_heap := ⟨He.cls_ok (c.fact 27 (f := .cls "Moving") rfl), He.noat_ok (c.fact 28 (f := .noat "Moving" "heap") rfl)⟩
  f_Moving_places := ⟨He.cls_ok (c.fact 27 (f := .cls "Moving") rfl), He.noat_ok (c.fact 29 (f := .noat "Moving" "places") rfl)⟩
  z_abs := He.free_ok X G (c.fact 30 (f := .free "abs") rfl)
  z_bool := He.free_ok X G (c.fact 31 (f := .free "bool") rfl)
  z_enumerate := He.free_ok X G (c.fact 32 (f := .free "enumerate") rfl)
  z_int := He.free_ok X G (c.fact 33 (f := .free "int") rfl)
  z_isinstance := He.free_ok X G (c.fact 34 (f := .free "isinstance") rfl)
  z_len := He.free_ok X G (c.fact 35 (f := .free "len") rfl)
  z_list := He.free_ok X G (c.fact 36 (f := .free "list") rfl)
  z_range := He.free_ok X G (c.fact 37 (f := .free "range") rfl)
  z_sorted := He.free_ok X G (c.fact 38 (f := .free "sorted") rfl)
  z_tuple := He.free_ok X G (c.fact 39 (f := .free "tuple") rfl)
theorem law_fn {K : PySem.W.Frag} (c : He.SaysD fa fn K) : ∃ fd, FnD K "law" "law" s_law (He.fAd K ("law", none)) fd := c.def_ 19 rfl
theorem law_glo {K : PySem.W.Frag} {h : Heap} {mg : Str → Option Value} (X : K.In h) (G : h.Ns mainGlobals mg) (c : He.SaysD fa fn K) : mg "law" = some (.ref (He.ga K "law")) := He.glo_ok X G (c.fact 21 (f := .glo "law") rfl)
def loose0 : List Str := ["Heap", "Moving", "is_young", "placed", "_law_draw", "_law_take", "_law_alike", "_law_pick", "_law_make"]
def loose : List Str := loose0
abbrev RO : PySem.W.OpenRow := PySem.W.OpenLaw.row PySem.Challenge.rw_guanaco_k57_whole_heaps_lose_nothing
abbrev qv : Program := PySem.W.view RO.prog [11]
abbrev hk : PySem.W.Hook := He.hookD 5 fa fn
def ob (s : PySem.W.SharedT) : He.AlD := He.obsDG 5 fa fn (HandSHeadRun.getT s)
theorem ob_eq (s : PySem.W.SharedT) : ob s = hk.obs s.abs := He.obsDG_eq (HandSHeadRun.getT_eq s)
theorem run (w : World) : HandSHeadRun.RunEq RO qv hk ob 2000 loose w := by
  intro os
  kernel_rfl
end K57

local macro_rules | `(tactic| walk_at "ne") => `(tactic| first
  | assumption
  | (apply Ne.symm; assumption)
  | (apply DL.sne; (· assumption); (· assumption))
  | (apply Ne.symm; apply DL.sne; (· assumption); (· assumption)))
local macro_rules | `(tactic| walk_at "sto") => `(tactic| first
  | assumption
  | exact DL.supd_same
  | (refine Eq.trans (DL.supd_ne ?_) ?_; (· walk_at "ne"); (· walk_at "sto")))
local macro_rules | `(tactic| walk_at "at") => `(tactic| first
  | assumption
  | rfl)
local macro_rules | `(tactic| walk_at "fact") => `(tactic| first
  | assumption
  | rfl
  | (simp; done)
  | omega
  | decide)
local macro_rules | `(tactic| walk_at "keep") => `(tactic| (repeat (first
  | exact DL.Keep.refl _ _
  | assumption
  | ((refine DL.Keep.upd ?_ ?_); (· (simp; done)))
  | ((refine DL.Keep.nw ?_ ?_); (· assumption)))))
local macro_rules | `(tactic| walk_at "nin") => `(tactic| (simp only [List.mem_cons, List.not_mem_nil, or_false, not_or, not_false_eq_true]; (repeat' apply And.intro) <;> walk_at "ne"))
local macro_rules | `(tactic| walk_at "put") => `(tactic| ((conv => lhs; simp [DL.putD]); try rfl))
local macro_rules | `(tactic| walk_at "arith") => `(tactic| first
  | omega
  | assumption
  | decide)
local macro_rules | `(tactic| walk_at "cond") => `(tactic| first
  | assumption
  | (decide +kernel)
  | (simp; done)
  | omega)
local macro_rules | `(tactic| walk_at "step") => `(tactic| (first
  | (with_reducible apply DL.r_seq)
  | (with_reducible apply DL.r_asg)
  | ((with_reducible apply DL.r_var); (· rfl))
  | (with_reducible apply DL.r_c)
  | (with_reducible apply DL.r_op)
  | (with_reducible apply DL.r_cons)
  | (with_reducible apply DL.r_nil)
  | (with_reducible apply DL.r_dcall)
  | (with_reducible apply DL.r_gN)
  | (with_reducible apply DL.r_dB)
  | (with_reducible apply DL.r_B)
  | (with_reducible apply DL.r_dfld)
  | ((with_reducible apply DL.r_fld); (· walk_at "sto"); (· walk_at "fact"); (· walk_at "fact"))
  | ((with_reducible apply DL.r_ixT); (· walk_at "at"))
  | ((with_reducible apply DL.r_ixL); (· walk_at "sto"); (· walk_at "at"))
  | (with_reducible apply DL.r_dif)
  | (with_reducible apply DL.r_ifT)
  | (with_reducible apply DL.r_ifF)
  | (with_reducible apply DL.r_dCB)
  | (with_reducible apply DL.r_eqI)
  | (with_reducible apply DL.r_eqS)
  | (with_reducible apply DL.r_next)
  | (with_reducible apply DL.r_break)
  | (with_reducible apply DL.r_cont)
  | (with_reducible apply DL.r_drop)
  | (with_reducible apply DL.r_ret)
  | (with_reducible apply DL.r_retN)
  | (with_reducible apply DL.r_par)
  | (with_reducible apply DL.r_un)
  | (with_reducible apply DL.r_and)
  | (with_reducible apply DL.r_or)
  | (with_reducible apply DL.r_not)
  | (with_reducible apply DL.r_andV)
  | (with_reducible apply DL.r_orV)
  | (with_reducible apply DL.r_ifE)
  | (with_reducible apply DL.r_tup)
  | (with_reducible apply DL.r_lst)
  | (with_reducible apply DL.r_gsN)
  | (with_reducible apply DL.r_gsC)
  | (with_reducible apply DL.r_gIx)
  | (with_reducible apply DL.r_meth)
  | (with_reducible apply DL.r_make)
  | (with_reducible apply DL.r_sfld)
  | (with_reducible apply DL.r_saug)
  | (with_reducible apply DL.r_noP)
  | (with_reducible apply DL.r_part)
  | (with_reducible apply DL.r_int)
  | (with_reducible apply DL.r_sl)
  | (with_reducible apply DL.r_slT)
  | (with_reducible apply DL.r_bm)
  | (with_reducible apply DL.r_bm0)
  | (with_reducible apply DL.r_tyS)
  | (with_reducible apply DL.r_eqB)
  | (with_reducible apply DL.r_neI)
  | (with_reducible apply DL.r_neS)
  | (with_reducible apply DL.r_neB)
  | (with_reducible apply DL.r_isN0)
  | (with_reducible apply DL.r_isNI)
  | (with_reducible apply DL.r_isNS)
  | (with_reducible apply DL.r_isNT)
  | (with_reducible apply DL.r_isNR)
  | (with_reducible apply DL.r_noN0)
  | (with_reducible apply DL.r_noNI)
  | (with_reducible apply DL.r_noNS)
  | (with_reducible apply DL.r_noNT)
  | (with_reducible apply DL.r_noNR)
  | (with_reducible apply DL.r_sub)
  | (with_reducible apply DL.r_lt)
  | (with_reducible apply DL.r_le)
  | (with_reducible apply DL.r_gt)
  | (with_reducible apply DL.r_ge)
  | (with_reducible apply DL.r_neg)
  | (with_reducible apply DL.r_addI)
  | (with_reducible apply DL.r_iadd)
  | (with_reducible apply DL.r_truN)
  | (with_reducible apply DL.r_truB)
  | (with_reducible apply DL.r_truI)
  | (with_reducible apply DL.r_truT)
  | (with_reducible apply DL.r_lenT)
  | (with_reducible apply DL.r_lenZ)
  | (with_reducible apply DL.r_intI)
  | (with_reducible apply DL.r_intB)
  | (with_reducible apply DL.r_abs)
  | (with_reducible apply DL.r_tupT)
  | (with_reducible apply DL.r_listT)
  | (with_reducible apply DL.r_isi)
  | (with_reducible apply DL.r_ddget)
  | (with_reducible apply DL.r_ddin)
  | (with_reducible apply DL.r_dput)
  | (with_reducible apply DL.r_ddel)
  | (with_reducible apply DL.r_dnew)
  | (with_reducible apply DL.r_iL)
  | (with_reducible apply DL.r_iT)
  | (with_reducible apply DL.r_iTA)
  | (with_reducible apply DL.r_iZ)
  | (with_reducible apply DL.r_iZA)
  | (with_reducible apply DL.r_iS)
  | (with_reducible apply DL.r_iSA)
  | (with_reducible apply DL.r_iR1)
  | (with_reducible apply DL.r_iR2)
  | (with_reducible apply DL.r_iE)
  | (with_reducible apply DL.r_iET)
  | (with_reducible apply DL.r_iETA)
  | (with_reducible apply DL.r_yes)
  | (with_reducible apply DL.r_for)
  | (with_reducible apply DL.r_while)
  | (with_reducible apply DL.r_lc)
  | (with_reducible apply DL.r_dc)
  | (with_reducible apply DL.r_par2)
  | ((with_reducible apply DL.r_aug); (· rfl))
  | ((with_reducible apply DL.r_size); (· (simp; done)))
  | ((with_reducible apply DL.r_gT); (· walk_at "fact"))
  | ((with_reducible apply DL.r_gL); (· walk_at "sto"); (· walk_at "fact"))
  | ((with_reducible apply DL.r_setL); (· walk_at "sto"); (· walk_at "fact"))
  | ((with_reducible apply DL.r_methA); (· walk_at "sto"); (· walk_at "fact"))
  | ((with_reducible apply DL.r_sfldA); (· walk_at "sto"); (· walk_at "fact"); (· walk_at "fact"); (· walk_at "put"))
  | ((with_reducible apply DL.r_saugA); (· walk_at "sto"); (· walk_at "fact"); (· walk_at "put"))
  | ((with_reducible apply DL.r_saugB); (· walk_at "sto"); (· walk_at "fact"); (· walk_at "fact"))
  | ((with_reducible apply DL.r_ixZ); (· walk_at "at"))
  | ((with_reducible apply DL.r_slL); (· walk_at "sto"))
  | ((with_reducible apply DL.r_slS); (· walk_at "fact"))
  | ((with_reducible apply DL.r_tyL); (· walk_at "sto"))
  | ((with_reducible apply DL.r_tyD); (· walk_at "sto"))
  | ((with_reducible apply DL.r_eqT); (· walk_at "fact"); (· walk_at "fact"))
  | ((with_reducible apply DL.r_neT); (· walk_at "fact"); (· walk_at "fact"))
  | ((with_reducible apply DL.r_div); (· walk_at "arith"))
  | ((with_reducible apply DL.r_mod); (· walk_at "arith"))
  | ((with_reducible apply DL.r_pow); (· walk_at "fact"))
  | ((with_reducible apply DL.r_mul); (· walk_at "fact"))
  | ((with_reducible apply DL.r_addS); (· walk_at "fact"))
  | ((with_reducible apply DL.r_addT); (· walk_at "fact"))
  | ((with_reducible apply DL.r_addL); (· walk_at "sto"); (· walk_at "sto"); (· walk_at "fact"))
  | ((with_reducible apply DL.r_inT); (· walk_at "fact"); (· walk_at "fact"))
  | ((with_reducible apply DL.r_inL); (· walk_at "sto"); (· walk_at "fact"); (· walk_at "fact"))
  | ((with_reducible apply DL.r_truL); (· walk_at "sto"))
  | ((with_reducible apply DL.r_truD); (· walk_at "sto"))
  | ((with_reducible apply DL.r_lenS); (· walk_at "fact"))
  | ((with_reducible apply DL.r_lenL); (· walk_at "sto"))
  | ((with_reducible apply DL.r_lenD); (· walk_at "sto"))
  | ((with_reducible apply DL.r_tupL); (· walk_at "sto"))
  | ((with_reducible apply DL.r_listL); (· walk_at "sto"))
  | ((with_reducible apply DL.r_isiA); (· walk_at "fact"); (· walk_at "fact"))
  | ((with_reducible apply DL.r_append); (· walk_at "sto"); (· walk_at "fact"))
  | ((with_reducible apply DL.r_pop); (· walk_at "sto"))
  | ((with_reducible apply DL.r_extL); (· walk_at "sto"); (· walk_at "sto"); (· walk_at "fact"))
  | ((with_reducible apply DL.r_extT); (· walk_at "sto"); (· walk_at "fact"))
  | ((with_reducible apply DL.r_dget); (· walk_at "sto"); (· walk_at "fact"); (· walk_at "fact"))
  | ((with_reducible apply DL.r_sortL); (· walk_at "sto"))
  | ((with_reducible apply DL.r_sortD); (· walk_at "sto"); (· walk_at "fact"))
  | (with_reducible apply DL.r_ifNT)
  | (with_reducible apply DL.r_ifTT)
  | (with_reducible apply DL.r_ifFF)
  | (with_reducible apply DL.r_ifTTN)
  | (with_reducible apply DL.r_ifFFN)
  | (with_reducible apply DL.r_ifNF)
  | (with_reducible apply DL.r_ifSS)
  | (with_reducible apply DL.r_ifSN)
  | (with_reducible apply DL.r_ifNS)
  | (with_reducible apply DL.r_ifNN)
  | ((with_reducible apply DL.r_dputA); (· walk_at "sto"); (· walk_at "fact"); (· walk_at "fact"))
  | ((with_reducible apply DL.r_ddelA); (· walk_at "sto"); (· walk_at "fact"); (· walk_at "fact"))
  | ((with_reducible apply DL.r_din); (· walk_at "sto"); (· walk_at "fact"))
  | ((with_reducible apply DL.r_iLA); (· walk_at "sto"))
  | ((with_reducible apply DL.r_iEA); (· walk_at "sto"))
  | ((with_reducible apply DL.r_iR1A); (· walk_at "arith"); (· walk_at "arith"))
  | ((with_reducible apply DL.r_iR2A); (· walk_at "arith"))
  | ((with_reducible apply DL.r_ifPd); (· walk_at "cond"))
  | ((with_reducible apply DL.r_ifNd); (· walk_at "cond"))
  | ((with_reducible apply DL.r_ifnPd); (· walk_at "cond"))
  | ((with_reducible apply DL.r_ifnNd); (· walk_at "cond"))
  | (with_reducible apply DL.r_tru)))
local macro_rules | `(tactic| walk_at "run") => `(tactic| repeat (walk_at "step"))

namespace K57
open PySem L2 PySem.Spec PyProof.Rows DL
/-! ### the heap as data -/
abbrev Val := Str × Int
abbrev encV (v : Val) : D := .tup [.str v.1, .int v.2]
structure Ob where
  kind : Str
  word : D
  fs : List Val
abbrev encO (o : Ob) : D := .tup [.str o.kind, o.word, .tup (o.fs.map encV)]
def isY (v : Val) : Bool := decide (v.1 = "at") && decide (v.2 < 0)
structure He where
  young : List Ob
  old : List Ob
  rem : List Int
abbrev fsH (room : Int) (yl ol rd : Addr) : List (Str × D) := [("room", .int room), ("young", .ref yl), ("old", .ref ol), ("remembered", .ref rd)]
def encR (r : List Int) : List (Key × D) := r.map fun a => (Sum.inl a, D.bl true)
structure HAt (C : Addr) (S : Sto) (p yl ol rd : Addr) (room : Int) (h : He) : Prop where
  i : S p = some (.ins C (fsH room yl ol rd))
  y : S yl = some (.list (h.young.map encO))
  o : S ol = some (.list (h.old.map encO))
  r : S rd = some (.dict (encR h.rem))
  ne : yl ≠ ol
section
variable {C : Addr} {S S' : Sto} {p yl ol rd : Addr} {room : Int} {h : He}
theorem HAt.keep {L : List Addr} (H : HAt C S p yl ol rd room h) (k : Keep L S S') (n1 : p ∉ L) (n2 : yl ∉ L) (n3 : ol ∉ L) (n4 : rd ∉ L) : HAt C S' p yl ol rd room h :=
  ⟨k _ _ H.i n1, k _ _ H.y n2, k _ _ H.o n3, k _ _ H.r n4, H.ne⟩
theorem HAt.py (H : HAt C S p yl ol rd room h) : p ≠ yl := ne_of H.i H.y (by simp)
theorem HAt.po (H : HAt C S p yl ol rd room h) : p ≠ ol := ne_of H.i H.o (by simp)
theorem HAt.pr (H : HAt C S p yl ol rd room h) : p ≠ rd := ne_of H.i H.r (by simp)
theorem HAt.yr (H : HAt C S p yl ol rd room h) : yl ≠ rd := ne_of H.y H.r (by simp)
theorem HAt.or (H : HAt C S p yl ol rd room h) : ol ≠ rd := ne_of H.o H.r (by simp)
theorem HAt.setY (H : HAt C S p yl ol rd room h) (ys : List Ob) : HAt C (supd S yl (.list (ys.map encO))) p yl ol rd room { h with young := ys } :=
  ⟨by rw [supd_ne H.py]; exact H.i, supd_same, by rw [supd_ne H.ne.symm]; exact H.o, by rw [supd_ne H.yr.symm]; exact H.r, H.ne⟩
theorem HAt.setO (H : HAt C S p yl ol rd room h) (ys : List Ob) : HAt C (supd S ol (.list (ys.map encO))) p yl ol rd room { h with old := ys } :=
  ⟨by rw [supd_ne H.po]; exact H.i, by rw [supd_ne H.ne]; exact H.y, supd_same, by rw [supd_ne H.or.symm]; exact H.r, H.ne⟩
theorem HAt.setR (H : HAt C S p yl ol rd room h) (ys : List Int) : HAt C (supd S rd (.dict (encR ys))) p yl ol rd room { h with rem := ys } :=
  ⟨by rw [supd_ne H.pr]; exact H.i, by rw [supd_ne H.yr]; exact H.y, by rw [supd_ne H.or]; exact H.o, supd_same, H.ne⟩
end
def atV (a : Int) : Val := ("at", a)
def objAt (h : He) (a : Int) : Option Ob := if a < 0 then h.young[(-a - 1).toNat]? else h.old[a.toNat]?
def remF (r : List Int) (a : Int) : List Int := if a ∈ r then r else r ++ [a]
def storeF (h : He) (a : Int) (o : Ob) (c : Val) : He :=
  if a < 0 then { h with young := h.young.set (-a - 1).toNat ⟨o.kind, o.word, [c]⟩ }
  else { h with old := h.old.set a.toNat ⟨o.kind, o.word, [c]⟩, rem := if isY c then remF h.rem a else h.rem }
theorem encR_put (r : List Int) (a : Int) : putKD (encR r) (Sum.inl a) (.bl true) = encR (remF r a) := by
  unfold putKD remF encR
  by_cases h : a ∈ r
  · rw [if_pos h]
    have : (r.map fun a => ((Sum.inl a : Key), D.bl true)).any (fun kv => decide (kv.1 = Sum.inl a)) = true := by
      rw [List.any_eq_true]
      exact ⟨_, List.mem_map.mpr ⟨a, h, rfl⟩, by simp⟩
    rw [if_pos this, List.map_map]
    apply List.map_congr_left
    intro b _
    by_cases e : b = a
    · simp [e]
    · simp [e]
  · rw [if_neg h]
    have : ¬ (r.map fun a => ((Sum.inl a : Key), D.bl true)).any (fun kv => decide (kv.1 = Sum.inl a)) = true := by
      simp
      exact h
    rw [if_neg this]
    simp
/-! ### what the methods do -/
def sp_is_young : DSp := fun ds S Q => ∃ v : Val, ds = [encV v] ∧ Q (.bl (isY v)) S
def sp_full (C : Addr) : DSp := fun ds S Q => ∃ p yl ol rd room h, ds = [.ref p] ∧ HAt C S p yl ol rd room h ∧ Q (.bl (decide (room ≤ (h.young.length : Int)))) S
def sp_counts (C : Addr) : DSp := fun ds S Q => ∃ p yl ol rd room h, ds = [.ref p] ∧ HAt C S p yl ol rd room h ∧ Q (.tup [.int h.young.length, .int h.old.length, .int h.rem.length]) S
def sp_init (C : Addr) : DSp := fun ds S Q => ∃ p room, ds = [.ref p, .int room] ∧ S p = some (.ins C []) ∧ ∀ yl ol rd S', S yl = none → S ol = none → S rd = none → HAt C S' p yl ol rd room ⟨[], [], []⟩ → Keep [p] S S' → Q .non S'
def sp_make (C : Addr) : DSp := fun ds S Q => ∃ p yl ol rd room h o, ds = [.ref p, .str o.kind, o.word, .tup (o.fs.map encV)] ∧ HAt C S p yl ol rd room h ∧ h.young.length < 10000 ∧ Q (encV (atV (-(h.young.length + 1)))) (supd S yl (.list ((h.young ++ [o]).map encO)))
def sp_look (C : Addr) : DSp := fun ds S Q => ∃ p yl ol rd room h v o, ds = [.ref p, encV v] ∧ HAt C S p yl ol rd room h ∧ objAt h v.2 = some o ∧ Q (encO o) S
def sp_store (C : Addr) : DSp := fun ds S Q => ∃ p yl ol rd room h v o c, ds = [.ref p, encV v, encV c] ∧ HAt C S p yl ol rd room h ∧ objAt h v.2 = some o ∧ h.rem.length < 10000 ∧ ∀ S', HAt C S' p yl ol rd room (storeF h v.2 o c) → Keep [yl, ol, rd] S S' → Q .non S'
section
variable {K : PySem.W.Frag} {mg : Str → Option Value} {C1 C2 : Addr}
abbrev Ends (Q : DQ) : DEnds := { nx := fun _ S' => Q.less .non S', rt := Q.less }
theorem ok_is_young : ∀ ds St Q, sp_is_young ds St Q → R_is_young K C1 C2 (Ends Q) (startD N_is_young ds) St := by
  rintro ds St Q ⟨v, rfl, h⟩
  unfold R_is_young
  walk_at "run"
  unfold isY at h
  refine r_ifd (P := v.1 = "at") (fun c => ?_) (fun c => ?_)
  · walk_at "run"
    rw [decide_eq_true c] at h
    exact less_same h
  · rw [decide_eq_false c] at h
    exact less_same h
theorem ok_full (T : Top K mg C1 C2) : ∀ ds St Q, sp_full C1 ds St Q → R_Heap_is_full K C1 C2 (Ends Q) (startD N_Heap_is_full ds) St := by
  rintro ds St Q ⟨p, yl, ol, rd, room, h, rfl, ⟨i, y, o, r, ne⟩, q⟩
  have f1 := T.f_Heap_young; have f2 := T.f_Heap_room
  unfold R_Heap_is_full
  walk_at "run"
  rw [List.length_map]
  exact less_same q
theorem ok_counts (T : Top K mg C1 C2) : ∀ ds St Q, sp_counts C1 ds St Q → R_Heap_counts K C1 C2 (Ends Q) (startD N_Heap_counts ds) St := by
  rintro ds St Q ⟨p, yl, ol, rd, room, h, rfl, ⟨i, y, o, r, ne⟩, q⟩
  have f1 := T.f_Heap_young; have f2 := T.f_Heap_room; have f3 := T.f_Heap_old; have f4 := T.f_Heap_remembered
  unfold R_Heap_counts
  walk_at "run"
  rw [List.length_map, List.length_map, show (encR h.rem).length = h.rem.length from List.length_map _]
  exact less_same q
theorem ok_init (T : Top K mg C1 C2) : ∀ ds St Q, sp_init C1 ds St Q → R_Heap___init__ K C1 C2 (Ends Q) (startD N_Heap___init__ ds) St := by
  rintro ds St Q ⟨p, room, rfl, hp, q⟩
  have f1 := T.f_Heap_young; have f2 := T.f_Heap_room; have f3 := T.f_Heap_old; have f4 := T.f_Heap_remembered
  unfold R_Heap___init__
  walk_at "run"
  intro yl hy
  obtain ⟨n1, hy⟩ := sno.mp hy
  walk_at "run"
  intro ol ho
  simp only [sno] at ho
  obtain ⟨n2, n3, n4, ho⟩ := ho
  walk_at "run"
  intro rd hr
  simp only [sno] at hr
  obtain ⟨n5, n6, n7, n8, n9, hr⟩ := hr
  walk_at "run"
  exact less_same (q yl ol rd _ hy ho hr ⟨by walk_at "sto", by walk_at "sto", by walk_at "sto", by walk_at "sto", n3.symm⟩ (by walk_at "keep"))
theorem ok_make (T : Top K mg C1 C2) : ∀ ds St Q, sp_make C1 ds St Q → R_Heap_make K C1 C2 (Ends Q) (startD N_Heap_make ds) St := by
  rintro ds St Q ⟨p, yl, ol, rd, room, h, o, rfl, H, hl, q⟩
  obtain ⟨i, y, o', r, ne⟩ := id H
  have f1 := T.f_Heap_young; have f2 := T.f_Heap_room; have f3 := T.f_Heap_old; have f4 := T.f_Heap_remembered
  have n1 := H.py
  have hl2 : (h.young.map encO).length < sizeLine := by rw [List.length_map]; exact Nat.lt_trans hl (by decide)
  unfold R_Heap_make
  walk_at "run"
  simp only [List.length_append, List.length_map, List.length_singleton]
  rw [show h.young.map encO ++ [D.tup [D.str o.kind, o.word, D.tup (o.fs.map encV)]] = (h.young ++ [o]).map encO by simp]
  exact less_same q
theorem ok_look (T : Top K mg C1 C2) : ∀ ds St Q, sp_look C1 ds St Q → R_Heap_look K C1 C2 (Ends Q) (startD N_Heap_look ds) St := by
  rintro ds St Q ⟨p, yl, ol, rd, room, h, v, o, rfl, ⟨i, y, o', r, ne⟩, hl, q⟩
  have f1 := T.f_Heap_young; have f2 := T.f_Heap_room; have f3 := T.f_Heap_old; have f4 := T.f_Heap_remembered
  unfold R_Heap_look
  walk_at "run"
  unfold objAt at hl
  refine r_ifd (P := v.2 < 0) (fun c => ?_) (fun c => ?_)
  · rw [if_pos c] at hl
    have g : atI (h.young.map encO) (-v.2 - 1) = some (encO o) := atI_i (by omega) (by rw [List.getElem?_map, hl]; rfl)
    walk_at "run"
    exact less_same q
  · rw [if_neg c] at hl
    have g : atI (h.old.map encO) v.2 = some (encO o) := atI_i (by omega) (by rw [List.getElem?_map, hl]; rfl)
    walk_at "run"
    exact less_same q
theorem ok_store (T : Top K mg C1 C2) : ∀ ds St Q, sp_store C1 ds St Q → R_Heap_store K C1 C2 (sp_look C1) sp_is_young (Ends Q) (startD N_Heap_store ds) St := by
  rintro ds St Q ⟨p, yl, ol, rd, room, h, v, o, c, rfl, H, hl, hr, q⟩
  obtain ⟨i, y, o', r, ne⟩ := id H
  have f1 := T.f_Heap_young; have f2 := T.f_Heap_room; have f3 := T.f_Heap_old; have f4 := T.f_Heap_remembered
  have n1 := H.py; have n2 := H.po; have n3 := H.pr; have n4 := H.yr; have n5 := H.or
  unfold R_Heap_store
  walk_at "run"
  refine ⟨p, yl, ol, rd, room, h, v, o, rfl, H, hl, ?_⟩
  walk_at "run"
  unfold objAt at hl
  unfold storeF at q
  refine r_ifd (P := v.2 < 0) (fun d => ?_) (fun d => ?_)
  · rw [if_pos d] at hl q
    have hi := (List.getElem?_eq_some_iff.mp hl).1
    have g : ixN (h.young.map encO).length (-v.2 - 1) = some (-v.2 - 1).toNat := ixN_i (by omega) (by rw [List.length_map]; omega)
    walk_at "run"
    rw [show (h.young.map encO).set (-v.2 - 1).toNat (D.tup [D.str o.kind, o.word, D.tup [encV c]]) = (h.young.set (-v.2 - 1).toNat ⟨o.kind, o.word, [c]⟩).map encO by rw [List.map_set]; rfl]
    exact less_same (q _ (H.setY _) (by walk_at "keep"))
  · rw [if_neg d] at hl q
    have hi := (List.getElem?_eq_some_iff.mp hl).1
    have g : ixN (h.old.map encO).length v.2 = some v.2.toNat := ixN_i (by omega) (by rw [List.length_map]; omega)
    walk_at "run"
    rw [show (h.old.map encO).set v.2.toNat (D.tup [D.str o.kind, o.word, D.tup [encV c]]) = (h.old.set v.2.toNat ⟨o.kind, o.word, [c]⟩).map encO by rw [List.map_set]; rfl]
    refine ⟨c, rfl, ?_⟩
    walk_at "run"
    have H2 := H.setO (h.old.set v.2.toNat ⟨o.kind, o.word, [c]⟩)
    refine r_if (fun e => ?_) (fun e => ?_)
    · rw [e] at q
      have hr2 : (encR h.rem).length < sizeLine := by rw [show (encR h.rem).length = h.rem.length from List.length_map _]; exact Nat.lt_trans hr (by decide)
      walk_at "run"
      rw [encR_put]
      exact less_same (q _ (H2.setR _) (by walk_at "keep"))
    · rw [e] at q
      walk_at "run"
      exact less_same (q _ H2 (by walk_at "keep"))
end
end K57

namespace K57
open PySem L2 PySem.Spec PyProof.Rows DL
/-! ### moving: the model -/
abbrev Pl := List (Int × Nat)
def plLook (pl : Pl) (a : Int) : Option Nat := (pl.find? fun q => decide (q.1 = a)).map (·.2)
def encP (pl : Pl) : List (Key × D) := pl.map fun q => (Sum.inl q.1, D.int q.2)
theorem encP_val (a : Int) : ∀ pl : Pl, valD (encP pl) (Sum.inl a) = (plLook pl a).map fun n => D.int (n : Int)
  | [] => rfl
  | q :: r => by
    have ih := encP_val a r
    unfold valD plLook encP at ih ⊢
    rw [List.map_cons, List.find?_cons, List.find?_cons]
    by_cases h : q.1 = a
    · simp [h]
    · have h2 : ¬ (Sum.inl q.1 : Key) = Sum.inl a := fun e => h (Sum.inl.inj e)
      rw [decide_eq_false h, decide_eq_false h2]
      exact ih
theorem find_none (a : Int) : ∀ pl : Pl, plLook pl a = none → ∀ q ∈ pl, q.1 ≠ a := fun pl h q hq e => by
  unfold plLook at h
  rw [Option.map_eq_none_iff, List.find?_eq_none] at h
  exact h q hq (by simp [e])
theorem encP_put (pl : Pl) (a : Int) (n : Nat) (h : plLook pl a = none) : putKD (encP pl) (Sum.inl a) (.int (n : Int)) = encP (pl ++ [(a, n)]) := by
  have h1 := find_none a pl h
  unfold putKD encP
  have : ¬ (pl.map fun q => ((Sum.inl q.1 : Key), D.int (q.2 : Int))).any (fun kv => decide (kv.1 = Sum.inl a)) = true := by
    intro e
    rw [List.any_eq_true] at e
    obtain ⟨x, hx, e⟩ := e
    obtain ⟨q, hq, rfl⟩ := List.mem_map.mp hx
    have e2 : (Sum.inl q.1 : Key) = Sum.inl a := of_decide_eq_true e
    exact h1 q hq (Sum.inl.inj e2)
  rw [if_neg this]
  simp
theorem plLook_snoc (pl : Pl) (a : Int) (n : Nat) (h : plLook pl a = none) : plLook (pl ++ [(a, n)]) a = some n := by
  unfold plLook at h ⊢
  rw [Option.map_eq_none_iff] at h
  rw [List.find?_append, h]
  simp
structure Mv where
  old : List Ob
  pl : Pl
def moveF (yg : List Ob) (s : Mv) (v : Val) : Val × Mv :=
  if isY v = true then
    match plLook s.pl v.2 with
    | some j => (("at", (j : Int)), s)
    | none => match yg[(-v.2 - 1).toNat]? with
      | some o => (("at", (s.old.length : Int)), ⟨s.old ++ [o], s.pl ++ [(v.2, s.old.length)]⟩)
      | none => (v, s)
  else (v, s)
def movesF (yg : List Ob) : Mv → List Val → List Val × Mv
  | s, [] => ([], s)
  | s, v :: vs => ((moveF yg s v).1 :: (movesF yg (moveF yg s v).2 vs).1, (movesF yg (moveF yg s v).2 vs).2)
theorem movesF_snoc (yg : List Ob) (v : Val) : ∀ (vs : List Val) (s : Mv), movesF yg s (vs ++ [v]) = ((movesF yg s vs).1 ++ [(moveF yg (movesF yg s vs).2 v).1], (moveF yg (movesF yg s vs).2 v).2)
  | [], s => rfl
  | u :: vs, s => by
    rw [List.cons_append]
    unfold movesF
    rw [movesF_snoc yg v vs]
    rfl
theorem movesF_len (yg : List Ob) : ∀ (vs : List Val) (s : Mv), (movesF yg s vs).1.length = vs.length
  | [], s => rfl
  | u :: vs, s => by unfold movesF; rw [List.length_cons, List.length_cons, movesF_len yg vs]
def adjF (yg : List Ob) (s : Mv) (i : Nat) : Mv :=
  match s.old[i]? with
  | none => s
  | some o => ⟨(movesF yg s o.fs).2.old.set i ⟨o.kind, o.word, (movesF yg s o.fs).1⟩, (movesF yg s o.fs).2.pl⟩
def adjsF (yg : List Ob) (s : Mv) (is : List Int) : Mv := is.foldl (fun s a => adjF yg s a.toNat) s
def scanF (yg : List Ob) : Nat → Mv → Nat → Mv
  | 0, s, _ => s
  | f + 1, s, k => if k < s.old.length then scanF yg f (adjF yg s k) (k + 1) else s
def YOk (n : Nat) (v : Val) : Prop := isY v = true → -v.2 ≤ (n : Int)
def OOk (n : Nat) (o : Ob) : Prop := (∀ v ∈ o.fs, YOk n v) ∧ o.fs.length < 1000
structure MInv (yg : List Ob) (n0 : Nat) (s : Mv) : Prop where
  len : s.old.length = n0 + s.pl.length
  nd : (s.pl.map (·.1)).Nodup
  rng : ∀ q ∈ s.pl, q.1 < 0 ∧ -q.1 ≤ (yg.length : Int)
  ok : ∀ o ∈ s.old, OOk yg.length o
  yok : ∀ o ∈ yg, OOk yg.length o
theorem nodup_lt : ∀ (n : Nat) (l : List Nat), l.Nodup → (∀ x ∈ l, x < n) → l.length ≤ n
  | 0, l, _, h => by
    cases l with
    | nil => exact Nat.le_refl _
    | cons x r => exact absurd (h x List.mem_cons_self) (Nat.not_lt_zero _)
  | n + 1, l, nd, h => by
    have q := nodup_lt n (l.erase n) (nd.erase n) fun x hx => by
      have h1 := (List.Nodup.mem_erase_iff nd).mp hx
      have h2 := h x h1.2
      have h3 := h1.1
      omega
    have := List.length_erase (a := n) (l := l)
    rw [this] at q
    split at q <;> omega
theorem MInv.bnd {yg : List Ob} {n0 : Nat} {s : Mv} (m : MInv yg n0 s) : s.pl.length ≤ yg.length := by
  have q := nodup_lt yg.length ((s.pl.map (·.1)).map fun a : Int => (-a - 1).toNat) ?_ ?_
  · simpa using q
  · rw [List.nodup_iff_pairwise_ne, List.pairwise_map]
    have nd := m.nd
    rw [List.nodup_iff_pairwise_ne] at nd
    refine List.Pairwise.imp_of_mem ?_ nd
    intro a b ha hb hne e
    obtain ⟨qa, h1, rfl⟩ := List.mem_map.mp ha
    obtain ⟨qb, h2, rfl⟩ := List.mem_map.mp hb
    have r1 := m.rng qa h1
    have r2 := m.rng qb h2
    exact hne (by omega)
  · intro x hx
    obtain ⟨a, ha, rfl⟩ := List.mem_map.mp hx
    obtain ⟨qa, h1, rfl⟩ := List.mem_map.mp ha
    have r1 := m.rng qa h1
    omega
theorem isY_at {n : Nat} : isY ("at", (n : Int)) = false := by
  unfold isY
  simp
theorem moveF_inv {yg : List Ob} {n0 : Nat} {s : Mv} {v : Val} (m : MInv yg n0 s) (h : YOk yg.length v) : MInv yg n0 (moveF yg s v).2 ∧ isY (moveF yg s v).1 = false := by
  unfold moveF
  by_cases hy : isY v = true
  · rw [if_pos hy]
    have hv := h hy
    have hneg : v.2 < 0 := by unfold isY at hy; simp at hy; exact hy.2
    cases e : plLook s.pl v.2 with
    | some j => exact ⟨m, isY_at⟩
    | none =>
      have hi : (-v.2 - 1).toNat < yg.length := by omega
      rw [List.getElem?_eq_getElem hi]
      refine ⟨⟨?_, ?_, ?_, ?_, m.yok⟩, isY_at⟩
      · show (s.old ++ [_]).length = n0 + (s.pl ++ [_]).length
        rw [List.length_append, List.length_append, m.len]; rfl
      · show ((s.pl ++ [(v.2, s.old.length)]).map (·.1)).Nodup
        rw [List.map_append]
        rw [List.nodup_append]
        refine ⟨m.nd, by simp, ?_⟩
        intro a ha b hb
        obtain ⟨q, hq, rfl⟩ := List.mem_map.mp ha
        have hb : b = v.2 := by simpa using hb
        rw [hb]
        exact find_none _ _ e q hq
      · intro q hq
        rcases List.mem_append.mp hq with hq | hq
        · exact m.rng q hq
        · have : q = (v.2, s.old.length) := by simpa using hq
          rw [this]; exact ⟨hneg, hv⟩
      · intro o ho
        rcases List.mem_append.mp ho with ho | ho
        · exact m.ok o ho
        · have : o = yg[(-v.2 - 1).toNat] := by simpa using ho
          rw [this]; exact m.yok _ (List.getElem_mem _)
  · rw [if_neg hy]
    exact ⟨m, by simpa using hy⟩
theorem movesF_inv {yg : List Ob} {n0 : Nat} : ∀ (vs : List Val) (s : Mv), MInv yg n0 s → (∀ v ∈ vs, YOk yg.length v) → MInv yg n0 (movesF yg s vs).2 ∧ ∀ v ∈ (movesF yg s vs).1, isY v = false
  | [], s, m, h => ⟨m, fun v hv => by simp [movesF] at hv⟩
  | u :: vs, s, m, h => by
    have h1 := moveF_inv m (h u List.mem_cons_self)
    have h2 := movesF_inv vs _ h1.1 fun v hv => h v (List.mem_cons_of_mem _ hv)
    unfold movesF
    refine ⟨h2.1, fun v hv => ?_⟩
    rcases List.mem_cons.mp hv with e | hv
    · rw [e]; exact h1.2
    · exact h2.2 v hv
theorem moveF_old {yg : List Ob} {s : Mv} {v : Val} : ∃ t, (moveF yg s v).2.old = s.old ++ t := by
  unfold moveF
  split
  · split
    · exact ⟨[], by simp⟩
    · split
      · exact ⟨_, rfl⟩
      · exact ⟨[], by simp⟩
  · exact ⟨[], by simp⟩
theorem movesF_old {yg : List Ob} : ∀ (vs : List Val) (s : Mv), ∃ t, (movesF yg s vs).2.old = s.old ++ t
  | [], s => ⟨[], by simp [movesF]⟩
  | u :: vs, s => by
    obtain ⟨t1, h1⟩ := moveF_old (yg := yg) (s := s) (v := u)
    obtain ⟨t2, h2⟩ := movesF_old vs (moveF yg s u).2
    exact ⟨t1 ++ t2, by unfold movesF; rw [h2, h1, List.append_assoc]⟩
theorem not_young {n : Nat} {v : Val} (h : isY v = false) : YOk n v := fun e => by rw [h] at e; cases e
theorem adjF_inv {yg : List Ob} {n0 : Nat} {s : Mv} {i : Nat} (m : MInv yg n0 s) : MInv yg n0 (adjF yg s i) ∧ s.old.length ≤ (adjF yg s i).old.length := by
  unfold adjF
  cases e : s.old[i]? with
  | none => exact ⟨m, Nat.le_refl _⟩
  | some o =>
    have ho := m.ok o (List.mem_of_getElem? e)
    obtain ⟨h1, h2⟩ := movesF_inv o.fs s m ho.1
    obtain ⟨t, ht⟩ := movesF_old (yg := yg) o.fs s
    refine ⟨⟨?_, h1.nd, h1.rng, ?_, m.yok⟩, ?_⟩
    · show (List.set _ _ _).length = _
      rw [List.length_set]; exact h1.len
    · intro o' ho'
      rcases List.mem_or_eq_of_mem_set ho' with h | h
      · exact h1.ok o' h
      · rw [h]
        exact ⟨fun v hv => not_young (h2 v hv), by show (movesF yg s o.fs).1.length < 1000; rw [movesF_len]; exact ho.2⟩
    · show _ ≤ (List.set _ _ _).length
      rw [List.length_set, ht, List.length_append]; omega
/-! ### moving: the program -/
structure MvAt (C1 C2 : Addr) (S : Sto) (m pl p yl ol rd : Addr) (room : Int) (yg : List Ob) (rem : List Int) (s : Mv) : Prop where
  H : HAt C1 S p yl ol rd room ⟨yg, s.old, rem⟩
  mm : S m = some (.ins C2 [("heap", .ref p), ("places", .ref pl)])
  ml : S pl = some (.dict (encP s.pl))
  mp : m ≠ p
  rl : pl ≠ rd
section
variable {C1 C2 : Addr} {S S' : Sto} {m pl p yl ol rd q : Addr} {room : Int} {yg : List Ob} {rem : List Int} {s : Mv}
theorem HAt.fresh {h : He} (H : HAt C1 S p yl ol rd room h) (e : S q = none) : q ∉ [p, yl, ol, rd] := by
  intro z
  simp only [List.mem_cons, List.not_mem_nil, or_false] at z
  have h1 := H.i; have h2 := H.y; have h3 := H.o; have h4 := H.r
  rcases z with z | z | z | z <;> (rw [z] at e) <;> simp_all
theorem HAt.upd {h : He} {x : MO} (H : HAt C1 S p yl ol rd room h) (n : q ∉ [p, yl, ol, rd]) : HAt C1 (supd S q x) p yl ol rd room h := by
  simp only [List.mem_cons, List.not_mem_nil, or_false, not_or] at n
  obtain ⟨a, b, c, d⟩ := n
  exact ⟨by rw [supd_ne (Ne.symm a)]; exact H.i, by rw [supd_ne (Ne.symm b)]; exact H.y, by rw [supd_ne (Ne.symm c)]; exact H.o, by rw [supd_ne (Ne.symm d)]; exact H.r, H.ne⟩
theorem MvAt.fresh (M : MvAt C1 C2 S m pl p yl ol rd room yg rem s) (e : S q = none) : q ∉ [m, pl, p, yl, ol, rd] := by
  have h0 := M.H.fresh e
  intro z
  simp only [List.mem_cons, List.not_mem_nil, or_false, not_or] at z h0
  have h1 := M.mm; have h2 := M.ml
  rcases z with z | z | z | z | z | z
  · rw [z, h1] at e; cases e
  · rw [z, h2] at e; cases e
  · exact h0.1 z
  · exact h0.2.1 z
  · exact h0.2.2.1 z
  · exact h0.2.2.2 z
theorem MvAt.upd {x : MO} (M : MvAt C1 C2 S m pl p yl ol rd room yg rem s) (n : q ∉ [m, pl, p, yl, ol, rd]) : MvAt C1 C2 (supd S q x) m pl p yl ol rd room yg rem s := by
  simp only [List.mem_cons, List.not_mem_nil, or_false, not_or] at n
  obtain ⟨a, b, c⟩ := n
  exact ⟨M.H.upd (by simpa using c), by rw [supd_ne (Ne.symm a)]; exact M.mm, by rw [supd_ne (Ne.symm b)]; exact M.ml, M.mp, M.rl⟩
end
theorem take_snoc {α : Type} {l : List α} {i : Nat} {x : α} (h : l[i]? = some x) : l.take (i + 1) = l.take i ++ [x] := by
  rw [List.take_add_one, h]; rfl
theorem map_get {α : Type} {l : List α} {f : α → D} {i : Nat} {d : D} (h : (l.map f)[i]? = some d) : ∃ x, l[i]? = some x ∧ d = f x := by
  rw [List.getElem?_map] at h
  cases e : l[i]? with
  | none => rw [e] at h; cases h
  | some x => rw [e] at h; exact ⟨x, rfl, (Option.some.inj h).symm⟩
def sp_minit (C2 : Addr) : DSp := fun ds S Q => ∃ m p, ds = [.ref m, .ref p] ∧ S m = some (.ins C2 []) ∧ ∀ pl S', S pl = none → S' m = some (.ins C2 [("heap", .ref p), ("places", .ref pl)]) → S' pl = some (.dict []) → Keep [m] S S' → Q .non S'
def sp_value (C1 C2 : Addr) : DSp := fun ds S Q => ∃ m pl p yl ol rd room yg rem s n0 v, ds = [.ref m, encV v] ∧ MvAt C1 C2 S m pl p yl ol rd room yg rem s ∧ MInv yg n0 s ∧ YOk yg.length v ∧ n0 + yg.length < 10000 ∧
  ∀ S', MvAt C1 C2 S' m pl p yl ol rd room yg rem (moveF yg s v).2 → Keep [ol, pl] S S' → Q (encV (moveF yg s v).1) S'
def sp_adjust (C1 C2 : Addr) : DSp := fun ds S Q => ∃ m pl p yl ol rd room yg rem s n0 i, ds = [.ref m, .int (i : Nat)] ∧ MvAt C1 C2 S m pl p yl ol rd room yg rem s ∧ MInv yg n0 s ∧ i < s.old.length ∧ n0 + yg.length < 10000 ∧
  ∀ S', MvAt C1 C2 S' m pl p yl ol rd room yg rem (adjF yg s i) → Keep [ol, pl] S S' → Q .non S'
section
variable {K : PySem.W.Frag} {mg : Str → Option Value} {C1 C2 : Addr}
theorem ok_minit (T : Top K mg C1 C2) : ∀ ds St Q, sp_minit C2 ds St Q → R_Moving___init__ K C1 C2 (Ends Q) (startD N_Moving___init__ ds) St := by
  rintro ds St Q ⟨m, p, rfl, hm, q⟩
  have f1 := T.f_Moving_heap; have f2 := T.f_Moving_places
  unfold R_Moving___init__
  walk_at "run"
  intro pl hp
  simp only [sno] at hp
  obtain ⟨n1, hp⟩ := hp
  walk_at "run"
  exact less_same (q pl _ hp (by walk_at "sto") (by walk_at "sto") (by walk_at "keep"))
theorem ok_value (T : Top K mg C1 C2) : ∀ ds St Q, sp_value C1 C2 ds St Q → R_Moving_value K C1 C2 sp_is_young (sp_look C1) (Ends Q) (startD N_Moving_value ds) St := by
  rintro ds St Q ⟨m, pl, p, yl, ol, rd, room, yg, rem, s, n0, v, rfl, M, mi, hv, hb, q⟩
  obtain ⟨⟨i, y, o', r, ne⟩, hm, hpl, mp, rl⟩ := id M
  have f1 := T.f_Heap_young; have f2 := T.f_Heap_room; have f3 := T.f_Heap_old; have f4 := T.f_Heap_remembered
  have f5 := T.f_Moving_heap; have f6 := T.f_Moving_places
  have n1 := M.H.py; have n2 := M.H.po; have n3 := M.H.pr; have n4 := M.H.yr; have n5 := M.H.or
  have n6 : m ≠ ol := ne_of hm o' (by simp)
  have n7 : m ≠ pl := ne_of hm hpl (by simp)
  have n8 : ol ≠ pl := ne_of o' hpl (by simp)
  have n9 : p ≠ pl := ne_of i hpl (by simp)
  have n10 : yl ≠ pl := ne_of y hpl (by simp)
  unfold R_Moving_value
  walk_at "run"
  refine ⟨v, rfl, ?_⟩
  walk_at "run"
  unfold moveF at q
  by_cases hy : isY v = true
  · rw [if_pos hy] at q
    rw [hy]
    have e0 := encP_val v.2 s.pl
    cases e : plLook s.pl v.2 with
    | some j =>
      rw [e] at e0 q
      have q : ∀ S', MvAt C1 C2 S' m pl p yl ol rd room yg rem s → Keep [ol, pl] St S' → Q (encV (atV (j : Int))) S' := q
      have e1 : valD (encP s.pl) (Sum.inl v.2) = some (.int (j : Int)) := e0
      walk_at "run"
      rw [e1]
      walk_at "run"
      exact less_same (q _ M (Keep.refl _ _))
    | none =>
      have hneg : v.2 < 0 := by unfold isY at hy; simp at hy; exact hy.2
      have hi : (-v.2 - 1).toNat < yg.length := by have := hv hy; omega
      rw [e] at e0 q
      simp only [List.getElem?_eq_getElem hi] at q
      have q : ∀ S', MvAt C1 C2 S' m pl p yl ol rd room yg rem ⟨s.old ++ [yg[(-v.2 - 1).toNat]], s.pl ++ [(v.2, s.old.length)]⟩ → Keep [ol, pl] St S' → Q (encV (atV (s.old.length : Int))) S' := q
      have e1 : valD (encP s.pl) (Sum.inl v.2) = none := e0
      have hb1 := mi.bnd
      have hb2 := mi.len
      have l1 : (s.old.map encO).length < sizeLine := by rw [List.length_map, hb2]; exact Nat.lt_trans (by omega : _ < 10000) (by decide)
      have l2 : (encP s.pl).length < sizeLine := by rw [show (encP s.pl).length = s.pl.length from List.length_map _]; exact Nat.lt_trans (by omega : _ < 10000) (by decide)
      walk_at "run"
      rw [e1]
      walk_at "run"
      refine ⟨p, yl, ol, rd, room, _, v, yg[(-v.2 - 1).toNat], rfl, M.H, by unfold objAt; rw [if_pos hneg]; exact List.getElem?_eq_getElem hi, ?_⟩
      walk_at "run"
      have ei : ((((s.old.map encO) ++ [encO yg[(-v.2 - 1).toNat]]).length : Nat) : Int) - 1 = (s.old.length : Int) := by simp
      have ei2 := encP_put s.pl v.2 s.old.length e
      rw [← ei] at ei2
      rw [ei2, show s.old.map encO ++ [encO yg[(-v.2 - 1).toNat]] = (s.old ++ [yg[(-v.2 - 1).toNat]]).map encO by simp]
      have g : valD (encP (s.pl ++ [(v.2, s.old.length)])) (Sum.inl v.2) = some (.int (s.old.length : Int)) := by
        rw [encP_val, plLook_snoc _ _ _ e]; rfl
      walk_at "run"
      have H2 := M.H.setO (s.old ++ [yg[(-v.2 - 1).toNat]])
      exact less_same (q _ ⟨⟨by walk_at "sto", by walk_at "sto", by walk_at "sto", by walk_at "sto", ne⟩, by walk_at "sto", by walk_at "sto", mp, rl⟩ (by walk_at "keep"))
  · have hy : isY v = false := by simpa using hy
    rw [hy] at q ⊢
    walk_at "run"
    exact less_same (q _ M (Keep.refl _ _))
theorem ok_adjust (T : Top K mg C1 C2) : ∀ ds St Q, sp_adjust C1 C2 ds St Q → R_Moving_adjust K C1 C2 (sp_value C1 C2) (Ends Q) (startD N_Moving_adjust ds) St := by
  rintro ds St Q ⟨m, pl, p, yl, ol, rd, room, yg, rem, s, n0, k, rfl, M, mi, hk, hb, q⟩
  obtain ⟨⟨i, y, o', r, ne⟩, hm, hpl, mp, rl⟩ := id M
  have f1 := T.f_Heap_young; have f2 := T.f_Heap_room; have f3 := T.f_Heap_old; have f4 := T.f_Heap_remembered
  have f5 := T.f_Moving_heap; have f6 := T.f_Moving_places
  have n1 := M.H.py; have n2 := M.H.po; have n3 := M.H.pr; have n4 := M.H.yr; have n5 := M.H.or
  have n6 : m ≠ ol := ne_of hm o' (by simp)
  have n7 : m ≠ pl := ne_of hm hpl (by simp)
  have n8 : ol ≠ pl := ne_of o' hpl (by simp)
  have n9 : p ≠ pl := ne_of i hpl (by simp)
  have n10 : yl ≠ pl := ne_of y hpl (by simp)
  have n11 : m ≠ yl := ne_of hm y (by simp)
  have n12 : m ≠ rd := ne_of hm r (by simp)
  have hs : s.old[k]? = some s.old[k] := List.getElem?_eq_getElem hk
  have g : atI (s.old.map encO) (k : Int) = some (encO s.old[k]) := atI_n (by rw [List.getElem?_map, hs]; rfl)
  have hok := mi.ok _ (List.getElem_mem hk)
  unfold R_Moving_adjust
  walk_at "run"
  intro a ha
  have fr := M.fresh ha
  refine ⟨fun j S => S a = some (.list ((movesF yg s (s.old[k].fs.take j)).1.map encV)) ∧ MvAt C1 C2 S m pl p yl ol rd room yg rem (movesF yg s (s.old[k].fs.take j)).2 ∧ Keep [ol, pl] St S, ⟨supd_same, M.upd fr, Keep.nw ha (Keep.refl _ _)⟩, ?_⟩
  rintro j S hj ⟨w1, w2, w3⟩
  refine ⟨trivial, fun d hd => ?_, fun e => ?_⟩
  · obtain ⟨v, hv, rfl⟩ := map_get hd
    walk_at "run"
    have mi2 := (movesF_inv (s.old[k].fs.take j) s mi fun v hv => hok.1 v (List.mem_of_mem_take hv)).1
    have w2m := w2.mm
    walk_at "run"
    refine ⟨m, pl, p, yl, ol, rd, room, yg, rem, _, n0, v, rfl, w2, mi2, hok.1 v (List.mem_of_getElem? hv), hb, fun S' M' k' => ?_⟩
    have fa : a ∉ [ol, pl] := by simp at fr ⊢; exact ⟨fr.2.2.2.2.1, fr.2.1⟩
    have hl : ((movesF yg s (s.old[k].fs.take j)).1.map encV).length < sizeLine := by
      rw [List.length_map, movesF_len, List.length_take]
      have := hok.2
      exact Nat.lt_trans (by omega : _ < 1000) (by decide)
    refine ⟨_, k' _ _ w1 fa, hl, ?_⟩
    show _ ∧ _ ∧ _
    rw [take_snoc hv, movesF_snoc]
    refine ⟨by rw [List.map_append]; exact supd_same, M'.upd fr, Keep.nw ha (w3.trans k')⟩
  · have e : s.old[k].fs.take j = s.old[k].fs := List.take_of_length_le (by rw [e, List.length_map]; exact Nat.le_refl _)
    rw [e] at w1 w2
    have hi2 : k < (movesF yg s s.old[k].fs).2.old.length := by
      obtain ⟨t, ht⟩ := movesF_old (yg := yg) s.old[k].fs s
      rw [ht, List.length_append]; omega
    have gi : ixN ((movesF yg s s.old[k].fs).2.old.map encO).length (k : Int) = some k := ixN_i (by omega) (by rw [List.length_map]; omega)
    have W1 := w2.mm; have W2 := w2.H.i; have W3 := w2.H.o
    walk_at "run"
    have ea : adjF yg s k = ⟨(movesF yg s s.old[k].fs).2.old.set k ⟨s.old[k].kind, s.old[k].word, (movesF yg s s.old[k].fs).1⟩, (movesF yg s s.old[k].fs).2.pl⟩ := by
      unfold adjF; rw [hs]
    rw [ea] at q
    rw [show ((movesF yg s s.old[k].fs).2.old.map encO).set k (D.tup [.str s.old[k].kind, s.old[k].word, .tup ((movesF yg s s.old[k].fs).1.map encV)]) = ((movesF yg s s.old[k].fs).2.old.set k ⟨s.old[k].kind, s.old[k].word, (movesF yg s s.old[k].fs).1⟩).map encO by rw [List.map_set]]
    have H2 := w2.H.setO ((movesF yg s s.old[k].fs).2.old.set k ⟨s.old[k].kind, s.old[k].word, (movesF yg s s.old[k].fs).1⟩)
    exact less_same (q _ ⟨H2, by rw [supd_ne n6]; exact w2.mm, by rw [supd_ne n8.symm]; exact w2.ml, mp, rl⟩ (Keep.upd (by simp) w3))
end
end K57

namespace K57
open PySem L2 PySem.Spec PyProof.Rows DL
/-! ### minor -/
structure WfH (h : He) : Prop where
  oy : ∀ o ∈ h.young, OOk h.young.length o
  oo : ∀ o ∈ h.old, OOk h.young.length o
  rm : ∀ a ∈ h.rem, 0 ≤ a ∧ a < (h.old.length : Int)
  sz : h.old.length + h.young.length < 10000
def mvA (h : He) (roots : List Val) : List Val × Mv := movesF h.young ⟨h.old, []⟩ roots
def mvB (h : He) (roots : List Val) : Mv := adjsF h.young (mvA h roots).2 (sortI h.rem)
def mvC (h : He) (roots : List Val) : Mv := scanF h.young (h.young.length + 1) (mvB h roots) h.old.length
def minorF (h : He) (roots : List Val) : List Val × He := ((mvA h roots).1, ⟨[], (mvC h roots).old, []⟩)
def sp_minor (C1 : Addr) : DSp := fun ds S Q => ∃ p yl ol rd room h roots, ds = [.ref p, .tup (roots.map encV)] ∧ HAt C1 S p yl ol rd room h ∧ WfH h ∧ (∀ v ∈ roots, YOk h.young.length v) ∧ roots.length < 1000 ∧
  ∀ S' yl' rd', S yl' = none → S rd' = none → HAt C1 S' p yl' ol rd' room (minorF h roots).2 → Keep [p, ol] S S' → Q (.tup ((minorF h roots).1.map encV)) S'
theorem MInv0 {h : He} (w : WfH h) : MInv h.young h.old.length ⟨h.old, []⟩ := ⟨by simp, by simp, by simp, w.oo, w.oy⟩
theorem adjsF_snoc (yg : List Ob) (s : Mv) (is : List Int) (a : Int) : adjsF yg s (is ++ [a]) = adjF yg (adjsF yg s is) a.toNat := by
  unfold adjsF; rw [List.foldl_append]; rfl
theorem adjsF_inv {yg : List Ob} {n0 : Nat} : ∀ (is : List Int) (s : Mv), MInv yg n0 s → MInv yg n0 (adjsF yg s is) ∧ s.old.length ≤ (adjsF yg s is).old.length
  | [], s, m => ⟨m, Nat.le_refl _⟩
  | a :: is, s, m => by
    have h1 := adjF_inv (i := a.toNat) m
    have h2 := adjsF_inv is _ h1.1
    exact ⟨h2.1, Nat.le_trans h1.2 h2.2⟩
theorem none_back {L : List Addr} {S S' : Sto} {b : Addr} (k : Keep L S S') (h : S' b = none) (l : ∀ a ∈ L, S' a ≠ none) : S b = none := by
  cases e : S b with
  | none => rfl
  | some x =>
    by_cases z : b ∈ L
    · exact absurd h (l b z)
    · rw [k b x e z] at h; cases h
section
variable {K : PySem.W.Frag} {mg : Str → Option Value} {C1 C2 : Addr}
theorem ok_minor (T : Top K mg C1 C2) : ∀ ds St Q, sp_minor C1 ds St Q → R_Heap_minor K C1 C2 (sp_minit C2) (sp_value C1 C2) (sp_adjust C1 C2) (Ends Q) (startD N_Heap_minor ds) St := by
  rintro ds St Q ⟨p, yl, ol, rd, room, h, roots, rfl, H, w, hroots, hrl, q⟩
  have f1 := T.f_Heap_young; have f2 := T.f_Heap_room; have f3 := T.f_Heap_old; have f4 := T.f_Heap_remembered
  have f5 := T.f_Moving_heap; have f6 := T.f_Moving_places
  unfold R_Heap_minor
  walk_at "run"
  intro m hm
  refine ⟨m, p, rfl, supd_same, fun pl S1 hpl0 hS1m hS1p k1 => ⟨rfl, ?_⟩⟩
  obtain ⟨n1, hpl0⟩ := sno.mp hpl0
  have k1' : Keep [] St S1 := by
    intro a x ha _
    refine k1 a x ?_ ?_
    · rw [supd_ne (fun e => by rw [e, hm] at ha; cases ha)]; exact ha
    · intro e; simp at e; rw [e, hm] at ha; cases ha
  have H1 : HAt C1 S1 p yl ol rd room h := H.keep k1' (by simp) (by simp) (by simp) (by simp)
  have fm := H.fresh hm
  have fpl := H.fresh hpl0
  have M1 : MvAt C1 C2 S1 m pl p yl ol rd room h.young h.rem ⟨h.old, []⟩ := ⟨H1, hS1m, hS1p, fun e => fm (by simp [e]), fun e => fpl (by simp [e])⟩
  have mi1 := MInv0 w
  have g1 := H1.i; have g2 := H1.o
  have nme : m ≠ pl := Ne.symm n1
  walk_at "run"
  intro a ha
  have fr := M1.fresh ha
  have ha0 : St a = none := by
    cases e : St a with
    | none => rfl
    | some x => rw [k1' a x e (by simp)] at ha; cases ha
  refine ⟨fun j S => S a = some (.list ((movesF h.young ⟨h.old, []⟩ (roots.take j)).1.map encV)) ∧ MvAt C1 C2 S m pl p yl ol rd room h.young h.rem (movesF h.young ⟨h.old, []⟩ (roots.take j)).2 ∧ Keep [p, ol] St S, ⟨supd_same, M1.upd fr, Keep.nw ha0 (k1'.mono (by simp))⟩, ?_⟩
  rintro j S hj ⟨w1, w2, w3⟩
  refine ⟨trivial, fun d hd => ?_, fun e => ?_⟩
  · obtain ⟨v, hv, rfl⟩ := map_get hd
    walk_at "run"
    have mi2 := (movesF_inv (roots.take j) _ mi1 fun v hv => hroots v (List.mem_of_mem_take hv)).1
    have w2m := w2.mm
    walk_at "run"
    refine ⟨m, pl, p, yl, ol, rd, room, h.young, h.rem, _, _, v, rfl, w2, mi2, hroots v (List.mem_of_getElem? hv), w.sz, fun S' M' k' => ?_⟩
    have fa : a ∉ [ol, pl] := by simp at fr ⊢; exact ⟨fr.2.2.2.2.1, fr.2.1⟩
    have hl : ((movesF h.young ⟨h.old, []⟩ (roots.take j)).1.map encV).length < sizeLine := by
      rw [List.length_map, movesF_len, List.length_take]
      exact Nat.lt_trans (by omega : _ < 1000) (by decide)
    refine ⟨_, k' _ _ w1 fa, hl, ?_⟩
    show _ ∧ _ ∧ _
    rw [take_snoc hv, movesF_snoc]
    refine ⟨by rw [List.map_append]; exact supd_same, M'.upd fr, Keep.nw ha0 ?_⟩
    intro b x hb hn
    have hb1 := w3 b x hb hn
    refine k' b x hb1 ?_
    intro z
    simp only [List.mem_cons, List.not_mem_nil, or_false] at z hn
    rcases z with z | z
    · exact hn (.inr z)
    · rw [z, hpl0] at hb; cases hb
  · have e : roots.take j = roots := List.take_of_length_le (by rw [e, List.length_map]; exact Nat.le_refl _)
    rw [e] at w1 w2
    have mi2 := (movesF_inv roots _ mi1 hroots).1
    have W1 := w2.mm; have W2 := w2.H.i; have W3 := w2.H.o; have W4 := w2.H.r
    have hk : (encR h.rem).map (·.1) = h.rem.map Sum.inl := by unfold encR; rw [List.map_map]; rfl
    walk_at "run"
    intro b hb
    have frb := w2.fresh hb
    have hb0 : St b = none ∨ b ∈ [p, ol] := by
      cases eb : St b with
      | none => exact .inl rfl
      | some x =>
        refine .inr ?_
        by_cases z : b ∈ [p, ol]
        · exact z
        · rw [w3 b x eb z] at hb; cases hb
    have hb0 : St b = none := by
      rcases hb0 with z | z
      · exact z
      · exact absurd (by simp only [List.mem_cons, List.not_mem_nil, or_false] at z ⊢; rcases z with z | z <;> simp [z]) frb
    walk_at "run"
    refine ⟨fun j ρ S => S b = some (.list ((sortI h.rem).map D.int)) ∧ (∃ x, ρ = [some (.ref p), some (.tup (roots.map encV)), some (.ref m), some (.int (h.old.length : Nat)), some (.tup ((mvA h roots).1.map encV)), x, none]) ∧
      MvAt C1 C2 S m pl p yl ol rd room h.young h.rem (adjsF h.young (mvA h roots).2 ((sortI h.rem).take j)) ∧ Keep [p, ol] St S, ⟨supd_same, ⟨none, by rw [List.length_map]; rfl⟩, w2.upd frb, Keep.nw hb0 w3⟩, ?_⟩
    rintro j ρ S2 hj ⟨x1, ⟨v5, rfl⟩, x2, x3⟩
    refine ⟨x1, fun d hd => ?_, fun e => ?_⟩
    · obtain ⟨ad, hv, rfl⟩ := map_get hd
      have hm2 := x2.mm
      walk_at "run"
      have mi3 := adjsF_inv ((sortI h.rem).take j) _ mi2
      have hr := w.rm ad (sortI_mem.mp (List.mem_of_getElem? hv))
      have ho := movesF_old (yg := h.young) roots ⟨h.old, []⟩
      obtain ⟨t, ho⟩ := ho
      have ho2 : (movesF h.young ⟨h.old, []⟩ roots).2.old.length = h.old.length + t.length := by rw [ho, List.length_append]
      refine ⟨m, pl, p, yl, ol, rd, room, h.young, h.rem, _, _, ad.toNat, by rw [Int.toNat_of_nonneg hr.1], x2, mi3.1, ?_, w.sz, fun S' M' k' => ?_⟩
      · have := mi3.2
        have hh := ho2
        unfold mvA
        omega
      have fa : b ∉ [ol, pl] := by simp at frb ⊢; exact ⟨frb.2.2.2.2.1, frb.2.1⟩
      refine ⟨k' _ _ x1 fa, ⟨_, rfl⟩, ?_, ?_⟩
      · rw [take_snoc hv, adjsF_snoc]; exact M'
      · intro b x hb hn
        refine k' b x (x3 b x hb hn) ?_
        intro z
        simp only [List.mem_cons, List.not_mem_nil, or_false] at z hn
        rcases z with z | z
        · exact hn (.inr z)
        · rw [z, hpl0] at hb; cases hb
    · have e : (sortI h.rem).take j = sortI h.rem := List.take_of_length_le (by rw [e, List.length_map]; exact Nat.le_refl _)
      rw [e] at x2
      have mi4 := (adjsF_inv (sortI h.rem) _ mi2).1
      walk_at "run"
      refine ⟨fun c ρ S => ∃ k s, ρ = [some (.ref p), some (.tup (roots.map encV)), some (.ref m), some (.int (k : Nat)), some (.tup ((mvA h roots).1.map encV)), v5, none] ∧
        MvAt C1 C2 S m pl p yl ol rd room h.young h.rem s ∧ MInv h.young h.old.length s ∧ h.old.length ≤ k ∧ k ≤ s.old.length ∧ c = h.old.length + h.young.length - k ∧ scanF h.young (h.old.length + h.young.length + 1 - k) s k = mvC h roots ∧ Keep [p, ol] St S, ⟨_, h.old.length, _, rfl, x2, mi4, Nat.le_refl _, by have := mi4.len; unfold mvA at *; omega, rfl, by unfold mvC; rw [show h.old.length + h.young.length + 1 - h.old.length = h.young.length + 1 by omega]; rfl, x3⟩, ?_⟩
      rintro c ρ S3 ⟨k, s, rfl, y1, y2, y3, y4, rfl, y5, y6⟩
      have hh1 := y1.H.i; have hh2 := y1.H.o; have hh3 := y1.mm
      walk_at "run"
      rw [List.length_map]
      have hlen := y2.len
      have hbnd := y2.bnd
      refine r_ifd (P := (k : Int) < (s.old.length : Nat)) (fun cc => ?_) (fun cc => ?_)
      · walk_at "run"
        refine ⟨m, pl, p, yl, ol, rd, room, h.young, h.rem, s, _, k, rfl, y1, y2, by omega, w.sz, fun S' M' k' => ?_⟩
        walk_at "run"
        refine ⟨h.old.length + h.young.length - (k + 1), by omega, k + 1, _, rfl, M', (adjF_inv y2).1, by omega, by have := (adjF_inv (i := k) y2).2; omega, rfl, ?_, ?_⟩
        · rw [show h.old.length + h.young.length + 1 - k = (h.old.length + h.young.length + 1 - (k + 1)) + 1 by omega] at y5
          unfold scanF at y5
          rw [if_pos (by omega)] at y5
          exact y5
        · intro b x hb hn
          refine k' b x (y6 b x hb hn) ?_
          intro z
          simp only [List.mem_cons, List.not_mem_nil, or_false] at z hn
          rcases z with z | z
          · exact hn (.inr z)
          · rw [z, hpl0] at hb; cases hb
      · walk_at "run"
        intro yn hyn
        have ny := y1.H.fresh hyn
        simp only [List.mem_cons, List.not_mem_nil, or_false, not_or] at ny
        have ny1 := ny.1
        have ky := none_back y6 hyn (by simp [hh1, hh2])
        walk_at "run"
        intro rn hrn
        simp only [sno] at hrn
        obtain ⟨r1, r2, hrn⟩ := hrn
        have nr := y1.H.fresh hrn
        simp only [List.mem_cons, List.not_mem_nil, or_false, not_or] at nr
        have kr := none_back y6 hrn (by simp [hh1, hh2])
        have nol := ny.2.2.1
        have nol2 := nr.2.2.1
        have npo := y1.H.po
        walk_at "run"
        have es : s = mvC h roots := by
          rw [← y5]
          have : ∀ f, scanF h.young f s k = s := by
            intro f
            cases f with
            | zero => rfl
            | succ f => unfold scanF; rw [if_neg (by omega)]
          exact (this _).symm
        rw [es] at hh2
        refine less_same (q _ yn rn ky kr ⟨by walk_at "sto", ?_, ?_, ?_, nol⟩ ?_)
        · show supd _ _ _ _ = some (.list [])
          walk_at "sto"
        · show supd _ _ _ _ = some (.list ((mvC h roots).old.map encO))
          walk_at "sto"
        · show supd _ _ _ _ = some (.dict [])
          walk_at "sto"
        · refine Keep.upd (by simp) (Keep.nw kr (Keep.upd (by simp) (Keep.nw ky y6)))
/-! ### reached, placed, major -/
inductive ReachR (old : List Ob) : List Int → List Val → List Int → Prop
  | done (found : List Int) : ReachR old found [] found
  | skip {found : List Int} {left : List Val} {v : Val} {R : List Int} : ¬ (v.1 = "at" ∧ v.2 ∉ found) → ReachR old found left R → ReachR old found (left ++ [v]) R
  | take {found : List Int} {left : List Val} {v : Val} {o : Ob} {R : List Int} : v.1 = "at" → v.2 ∉ found → old[v.2.toNat]? = some o → ReachR old (found ++ [v.2]) (left ++ o.fs) R → ReachR old found (left ++ [v]) R
def VOk (n : Nat) (v : Val) : Prop := v.1 = "at" → 0 ≤ v.2 ∧ v.2 < (n : Int)
structure WfR (old : List Ob) : Prop where
  ok : ∀ o ∈ old, (∀ v ∈ o.fs, VOk old.length v) ∧ o.fs.length < 1000
  sz : old.length < 10000
def sp_reached (C1 : Addr) : DSp := fun ds S Q => ∃ p yl ol rd room h roots, ds = [.ref p, .tup (roots.map encV)] ∧ HAt C1 S p yl ol rd room h ∧ WfR h.old ∧ (∀ v ∈ roots, VOk h.old.length v) ∧ roots.length < 1000 ∧
  ∀ R q S', ReachR h.old [] roots R → R.Nodup → (∀ a ∈ R, 0 ≤ a ∧ a < (h.old.length : Int)) → S q = none → S' q = some (.list ((sortI R).map D.int)) → Keep [] S S' → Q (.ref q) S'
theorem encR_val (r : List Int) (a : Int) : (valD (encR r) (Sum.inl a)).isSome = decide (a ∈ r) := by
  induction r with
  | nil => rfl
  | cons b r ih =>
    unfold valD encR at ih ⊢
    rw [List.map_cons, List.find?_cons]
    by_cases e : b = a
    · simp [e]
    · have h2 : ¬ (Sum.inl b : Key) = Sum.inl a := fun z => e (Sum.inl.inj z)
      rw [decide_eq_false h2]
      rw [ih]
      simp [Ne.symm e]
theorem found_bnd {found : List Int} {n : Nat} (nd : found.Nodup) (h : ∀ a ∈ found, 0 ≤ a ∧ a < (n : Int)) : found.length ≤ n := by
  have q := nodup_lt n (found.map fun a => a.toNat) ?_ ?_
  · simpa using q
  · rw [List.nodup_iff_pairwise_ne, List.pairwise_map]
    rw [List.nodup_iff_pairwise_ne] at nd
    refine List.Pairwise.imp_of_mem ?_ nd
    intro a b ha hb hne e
    have r1 := h a ha
    have r2 := h b hb
    exact hne (by omega)
  · intro x hx
    obtain ⟨a, ha, rfl⟩ := List.mem_map.mp hx
    have r1 := h a ha
    omega
theorem map_snoc_inv {α : Type} {f : α → D} {l : List α} {x : α} : l.map f ++ [f x] = (l ++ [x]).map f := by simp
theorem ok_reached (T : Top K mg C1 C2) : ∀ ds St Q, sp_reached C1 ds St Q → R_Heap_reached K C1 C2 (Ends Q) (startD N_Heap_reached ds) St := by
  rintro ds St Q ⟨p, yl, ol, rd, room, h, roots, rfl, H, w, hroots, hrl, q⟩
  obtain ⟨i, y, o', r, ne⟩ := id H
  have f3 := T.f_Heap_old
  unfold R_Heap_reached
  walk_at "run"
  intro fd hfd
  walk_at "run"
  intro ll hll
  obtain ⟨n1, hll⟩ := sno.mp hll
  have ffd := H.fresh hfd
  have fll := H.fresh hll
  simp only [List.mem_cons, List.not_mem_nil, or_false, not_or] at ffd fll
  have n2 := ffd.1; have n3 := ffd.2.2.1; have n4 := fll.1; have n5 := fll.2.2.1
  walk_at "run"
  refine ⟨fun m ρ S => ∃ (found : List Int) (left : List Val) (x : Option D), ρ = [some (.ref p), some (.tup (roots.map encV)), some (.ref fd), some (.ref ll), x] ∧ S fd = some (.dict (encR found)) ∧ S ll = some (.list (left.map encV)) ∧
    S p = some (.ins C1 (fsH room yl ol rd)) ∧ S ol = some (.list (h.old.map encO)) ∧ found.Nodup ∧ (∀ a ∈ found, 0 ≤ a ∧ a < (h.old.length : Int)) ∧ (∀ v ∈ left, VOk h.old.length v) ∧
    m = left.length + 1000 * (h.old.length - found.length) ∧ m ≤ 10001000 ∧ (∀ R, ReachR h.old found left R → ReachR h.old [] roots R) ∧ Keep [] St S,
    ⟨_, [], roots, none, rfl, by walk_at "sto", by walk_at "sto", by walk_at "sto", by walk_at "sto", List.nodup_nil, by simp, hroots, rfl, by have := w.sz; simp; omega, fun R h => h, by walk_at "keep"⟩, ?_⟩
  rintro m ρ S ⟨found, left, x, rfl, a1, a2, a3, a4, a5, a6, a7, a8, a9, a10, a11⟩
  walk_at "run"
  rcases List.eq_nil_or_concat left with e | ⟨left', v, e⟩
  · subst e
    rw [show (!(([] : List Val).map encV).isEmpty) = false from rfl]
    have hk : (encR found).map (·.1) = found.map Sum.inl := by unfold encR; rw [List.map_map]; rfl
    walk_at "run"
    intro rl hrl2
    exact less_same (q found rl _ (a10 found (.done found)) a5 a6 (none_back a11 hrl2 (by simp)) supd_same (Keep.nw (none_back a11 hrl2 (by simp)) a11))
  · rw [List.concat_eq_append] at e
    subst e
    have e1 : (!((left' ++ [v]).map encV).isEmpty) = true := by simp
    rw [e1]
    have a2' : S ll = some (.list (left'.map encV ++ [encV v])) := by rw [a2]; simp
    have e2 : (left' ++ [v]).length = left'.length + 1 := by simp
    have hfb := found_bnd a5 a6
    have kf : Keep [ll] St S := a11.mono (by simp)
    walk_at "run"
    refine r_ifd (P := v.1 = "at") (fun c => ?_) (fun c => ?_)
    · walk_at "run"
      rw [encR_val]
      refine r_ifn (P := v.2 ∈ found) (fun c2 => ?_) (fun c2 => ?_)
      · have hv := a7 v (by simp) c
        have hi : v.2.toNat < h.old.length := by omega
        have ho : h.old[v.2.toNat]? = some h.old[v.2.toNat] := List.getElem?_eq_getElem hi
        have g1 : atI (h.old.map encO) v.2 = some (encO h.old[v.2.toNat]) := atI_i hv.1 (by rw [List.getElem?_map, ho]; rfl)
        have hok := w.ok _ (List.getElem_mem hi)
        have l0 : (encR found).length = found.length := List.length_map _
        have hsz := w.sz
        have l1 : (encR found).length < sizeLine := by rw [l0]; exact Nat.lt_trans (by omega : _ < 10001) (by decide)
        have l2 : (left'.map encV).length + (h.old[v.2.toNat].fs.map encV).length ≤ sizeLine := by
          rw [List.length_map, List.length_map]
          have := hok.2
          exact Nat.le_trans (by omega : _ ≤ 10003000) (by decide)
        walk_at "run"
        have nd2 : (found ++ [v.2]).Nodup := by
          rw [List.nodup_append]
          exact ⟨a5, by simp, fun a ha b hb => by simp at hb; rw [hb]; exact fun z => c2 (z ▸ ha)⟩
        have rg2 : ∀ a ∈ found ++ [v.2], 0 ≤ a ∧ a < (h.old.length : Int) := fun a ha => by
          rcases List.mem_append.mp ha with z | z
          · exact a6 a z
          · simp at z; rw [z]; exact hv
        have hfb2 := found_bnd nd2 rg2
        rw [List.length_append, List.length_singleton] at hfb2
        refine ⟨_, ?_, found ++ [v.2], left' ++ h.old[v.2.toNat].fs, _, rfl, ?_, ?_, by walk_at "sto", by walk_at "sto", nd2, rg2, ?_, rfl, ?_, ?_, ?_⟩
        · rw [List.length_append, List.length_append, List.length_singleton]
          have := hok.2
          omega
        · rw [encR_put]
          rw [show remF found v.2 = found ++ [v.2] by unfold remF; rw [if_neg c2]]
          walk_at "sto"
        · rw [List.map_append]; walk_at "sto"
        · intro u hu
          rcases List.mem_append.mp hu with z | z
          · exact a7 u (by simp [z])
          · exact hok.1 u z
        · rw [List.length_append, List.length_append, List.length_singleton]
          have := hok.2
          omega
        · exact fun R hR => a10 R (.take c c2 ho hR)
        · exact Keep.nw hll (Keep.nw hfd (Keep.nw hll a11))
      · walk_at "run"
        refine ⟨_, ?_, found, left', _, rfl, by walk_at "sto", by walk_at "sto", by walk_at "sto", by walk_at "sto", a5, a6, fun u hu => a7 u (by simp [hu]), rfl, ?_, fun R hR => a10 R (.skip (fun z => z.2 c2) hR), Keep.nw hll a11⟩
        · omega
        · omega
    · walk_at "run"
      refine ⟨_, ?_, found, left', _, rfl, by walk_at "sto", by walk_at "sto", by walk_at "sto", by walk_at "sto", a5, a6, fun u hu => a7 u (by simp [hu]), rfl, ?_, fun R hR => a10 R (.skip (fun z => c z.1) hR), Keep.nw hll a11⟩
      · omega
      · omega
def placedF (pl : Pl) (v : Val) : Val := if v.1 = "at" then atV (((plLook pl v.2).getD 0 : Nat) : Int) else v
def sp_placed : DSp := fun ds S Q => ∃ v pd pl, ds = [encV v, .ref pd] ∧ S pd = some (.dict (encP pl)) ∧ (v.1 = "at" → ∃ n, plLook pl v.2 = some n) ∧ Q (encV (placedF pl v)) S
theorem ok_placed : ∀ ds St Q, sp_placed ds St Q → R_placed K C1 C2 (Ends Q) (startD N_placed ds) St := by
  rintro ds St Q ⟨v, pd, pl, rfl, h, hv, q⟩
  unfold R_placed
  walk_at "run"
  unfold placedF at q
  refine r_ifd (P := v.1 = "at") (fun c => ?_) (fun c => ?_)
  · rw [if_pos c] at q
    obtain ⟨n, hn⟩ := hv c
    have g : valD (encP pl) (Sum.inl v.2) = some (.int (n : Int)) := by rw [encP_val, hn]; rfl
    walk_at "run"
    rw [hn] at q
    exact less_same q
  · rw [if_neg c] at q
    walk_at "run"
    exact less_same q
end
end K57

namespace K57
open PySem L2 PySem.Spec PyProof.Rows DL
theorem reach_sub {old : List Ob} {f R : List Int} {l : List Val} (h : ReachR old f l R) : ∀ a ∈ f, a ∈ R := by
  induction h with
  | done => exact fun a h => h
  | skip _ _ ih => exact ih
  | take _ _ _ _ ih => exact fun a ha => ih a (List.mem_append_left _ ha)
theorem reach_left {old : List Ob} {f R : List Int} {l : List Val} (h : ReachR old f l R) : ∀ v ∈ l, v.1 = "at" → v.2 ∈ R := by
  induction h with
  | done => intro v hv; simp at hv
  | skip hn h ih =>
    rename_i found left v R
    intro u hu c
    rcases List.mem_append.mp hu with z | z
    · exact ih u z c
    · have z : u = v := by simpa using z
      subst z
      by_cases m : u.2 ∈ found
      · exact reach_sub h _ m
      · exact absurd ⟨c, m⟩ hn
  | take h1 h2 h3 h ih =>
    rename_i found left v o R
    intro u hu c
    rcases List.mem_append.mp hu with z | z
    · exact ih u (List.mem_append_left _ z) c
    · have z : u = v := by simpa using z
      subst z
      exact reach_sub h _ (by simp)
theorem reach_closed {old : List Ob} {f R : List Int} {l : List Val} (h : ReachR old f l R) : (∀ a ∈ f, ∀ o, old[a.toNat]? = some o → ∀ v ∈ o.fs, v.1 = "at" → v.2 ∈ f ∨ v ∈ l) →
    ∀ a ∈ R, ∀ o, old[a.toNat]? = some o → ∀ v ∈ o.fs, v.1 = "at" → v.2 ∈ R := by
  induction h with
  | done found => exact fun g a ha o ho v hv c => (g a ha o ho v hv c).elim id fun z => by simp at z
  | skip hn h ih =>
    rename_i found left v R
    intro g
    refine ih fun a ha o ho u hu c => ?_
    rcases g a ha o ho u hu c with z | z
    · exact .inl z
    · rcases List.mem_append.mp z with z | z
      · exact .inr z
      · have z : u = v := by simpa using z
        subst z
        by_cases m : u.2 ∈ found
        · exact .inl m
        · exact absurd ⟨c, m⟩ hn
  | take h1 h2 h3 h ih =>
    rename_i found left v o R
    intro g
    refine ih fun a ha o' ho u hu c => ?_
    rcases List.mem_append.mp ha with z | z
    · rcases g a z o' ho u hu c with z | z
      · exact .inl (List.mem_append_left _ z)
      · rcases List.mem_append.mp z with z | z
        · exact .inr (List.mem_append_left _ z)
        · have z : u = v := by simpa using z
          subst z
          exact .inl (by simp)
    · have z : a = v.2 := by simpa using z
      subst z
      rw [h3] at ho
      cases ho
      exact .inr (List.mem_append_right _ hu)
def plK (kept : List Int) : Pl := kept.zipIdx
theorem plK_find (a : Int) : ∀ (kept : List Int) (k : Nat), a ∈ kept → ∃ n, (kept.zipIdx k).find? (fun q => decide (q.1 = a)) = some (a, k + n) ∧ kept[n]? = some a
  | [], _, h => by simp at h
  | b :: r, k, h => by
    rw [List.zipIdx_cons, List.find?_cons]
    by_cases e : b = a
    · exact ⟨0, by simp [e], by simp [e]⟩
    · have h' : a ∈ r := by
        rcases List.mem_cons.mp h with z | z
        · exact absurd z.symm e
        · exact z
      obtain ⟨n, h1, h2⟩ := plK_find a r (k + 1) h'
      refine ⟨n + 1, ?_, by simpa using h2⟩
      rw [decide_eq_false e]
      rw [h1]
      simp
      omega
theorem plK_look {kept : List Int} {a : Int} (h : a ∈ kept) : ∃ n, plLook (plK kept) a = some n ∧ kept[n]? = some a := by
  obtain ⟨n, h1, h2⟩ := plK_find a kept 0 h
  refine ⟨n, ?_, h2⟩
  unfold plLook plK
  rw [h1]
  simp
theorem plK_none {kept : List Int} (nd : kept.Nodup) {i : Nat} {a : Int} (h : kept[i]? = some a) : plLook ((plK kept).take i) a = none := by
  unfold plLook
  rw [Option.map_eq_none_iff, List.find?_eq_none]
  intro q hq e
  have e : q.1 = a := by simpa using e
  unfold plK at hq
  rw [List.mem_iff_getElem?] at hq
  obtain ⟨j, hj⟩ := hq
  rw [List.getElem?_take] at hj
  split at hj
  · rename_i hlt
    rw [List.getElem?_zipIdx] at hj
    cases e2 : kept[j]? with
    | none => rw [e2] at hj; cases hj
    | some b =>
      rw [e2] at hj
      have hb : q = (b, 0 + j) := (Option.some.inj hj).symm
      have e3 : b = a := by rw [hb] at e; exact e
      rw [e3] at e2
      have := (List.getElem?_inj (List.getElem?_eq_some_iff.mp e2).1 nd).mp (e2.trans h.symm)
      omega
  · cases hj
theorem plK_get {kept : List Int} {i : Nat} {a : Int} (h : kept[i]? = some a) : (plK kept)[i]? = some (a, i) := by
  unfold plK
  rw [List.getElem?_zipIdx, h]
  simp
theorem enum_get {α : Type} {l : List α} {f : α → D} {i : Nat} {d : D} (h : (enumD (l.map f))[i]? = some d) : ∃ x, l[i]? = some x ∧ d = .tup [.int (i : Int), f x] := by
  have hi := (List.getElem?_eq_some_iff.mp h).1
  rw [enumD_length, List.length_map] at hi
  have h2 : (l.map f)[i]? = some (f l[i]) := by rw [List.getElem?_map, List.getElem?_eq_getElem hi]; rfl
  rw [enumD_get h2] at h
  exact ⟨l[i], List.getElem?_eq_getElem hi, (Option.some.inj h).symm⟩
def newO (old : List Ob) (pl : Pl) (a : Int) : Ob := match old[a.toNat]? with
  | some o => ⟨o.kind, o.word, o.fs.map (placedF pl)⟩
  | none => ⟨"", .non, []⟩
def keptO (old : List Ob) (R : List Int) : List Ob := (sortI R).map (newO old (plK (sortI R)))
def sp_major (C1 : Addr) : DSp := fun ds S Q => ∃ p yl ol rd room h roots, ds = [.ref p, .tup (roots.map encV)] ∧ HAt C1 S p yl ol rd room h ∧ WfH h ∧ (∀ v ∈ roots, YOk h.young.length v) ∧ roots.length < 1000 ∧
  WfR (minorF h roots).2.old ∧ (∀ v ∈ (minorF h roots).1, VOk (minorF h roots).2.old.length v) ∧
  ∀ R S' yl' ol' rd', ReachR (minorF h roots).2.old [] (minorF h roots).1 R → R.Nodup → (∀ a ∈ R, 0 ≤ a ∧ a < ((minorF h roots).2.old.length : Int)) → S yl' = none → S ol' = none → S rd' = none →
    HAt C1 S' p yl' ol' rd' room ⟨[], keptO (minorF h roots).2.old R, []⟩ → Keep [p, ol] S S' → Q (.tup (((minorF h roots).1.map (placedF (plK (sortI R)))).map encV)) S'
section
variable {K : PySem.W.Frag} {mg : Str → Option Value} {C1 C2 : Addr}
theorem ok_major (T : Top K mg C1 C2) : ∀ ds St Q, sp_major C1 ds St Q → R_Heap_major K C1 C2 (sp_minor C1) (sp_reached C1) sp_placed (Ends Q) (startD N_Heap_major ds) St := by
  rintro ds St Q ⟨p, yl, ol, rd, room, h, roots, rfl, H, w, hroots, hrl, wr, hr2, q⟩
  have f1 := T.f_Heap_young; have f2 := T.f_Heap_room; have f3 := T.f_Heap_old; have f4 := T.f_Heap_remembered
  have i0 := H.i
  have hlen1 : (minorF h roots).1.length = roots.length := by unfold minorF mvA; rw [movesF_len]
  unfold R_Heap_major
  walk_at "run"
  refine ⟨p, yl, ol, rd, room, h, roots, rfl, H, w, hroots, hrl, fun S1 yl1 rd1 hy1 hd1 H1 k1 => ?_⟩
  generalize hM : minorF h roots = M at *
  have i1 := H1.i
  walk_at "run"
  refine ⟨p, yl1, ol, rd1, room, M.2, M.1, rfl, H1, wr, hr2, by omega, fun R qa S2 hR ndR rgR hqa hS2 k2 => ?_⟩
  have hsz := wr.sz
  have hfb := found_bnd ndR rgR
  have nds : (sortI R).Nodup := (sortI_perm R).nodup_iff.mpr ndR
  have H2 : HAt C1 S2 p yl1 ol rd1 room M.2 := H1.keep k2 (by simp) (by simp) (by simp) (by simp)
  have hO : S1 ol ≠ none := by rw [H1.o]; simp
  have hP : S1 p ≠ none := by rw [H1.i]; simp
  have back1 : ∀ {b : Addr}, S1 b = none → St b = none := fun hb => none_back k1 hb (by simp [hO, hP])
  have back2 : ∀ {b : Addr}, S2 b = none → S1 b = none := fun hb => none_back k2 hb (by simp)
  walk_at "run"
  intro pd hpd
  have fpd := H2.fresh hpd
  have npq : pd ≠ qa := fun e => by rw [e, hS2] at hpd; cases hpd
  refine ⟨fun j S => S pd = some (.dict (encP ((plK (sortI R)).take j))) ∧ S qa = some (.list ((sortI R).map D.int)) ∧ HAt C1 S p yl1 ol rd1 room M.2 ∧ Keep [] S2 S, ⟨supd_same, by rw [supd_ne (Ne.symm npq)]; exact hS2, H2.upd fpd, Keep.nw hpd (Keep.refl _ _)⟩, ?_⟩
  rintro j S hj ⟨w1, w2, w3, w4⟩
  refine ⟨w2, fun d hd => ?_, fun e => ?_⟩
  · obtain ⟨a, ha, rfl⟩ := enum_get hd
    walk_at "run"
    have l1 : (encP ((plK (sortI R)).take j)).length < sizeLine := by
      unfold encP plK
      rw [List.length_map, List.length_take, List.length_zipIdx, sortI_len]
      exact Nat.lt_trans (by omega : _ < 10001) (by decide)
    refine ⟨_, _, w1, rfl, l1, ?_⟩
    show _ ∧ _ ∧ _ ∧ _
    rw [take_snoc (plK_get ha), encP_put _ _ _ (plK_none nds ha)]
    exact ⟨supd_same, by rw [supd_ne (Ne.symm npq)]; exact w2, w3.upd fpd, Keep.nw hpd w4⟩
  · have e : (plK (sortI R)).take j = plK (sortI R) := List.take_of_length_le (by rw [e]; show _ ≤ (enumD _).length; rw [enumD_length, List.length_map]; unfold plK; rw [List.length_zipIdx]; exact Nat.le_refl _)
    rw [e] at w1
    have i2 := w3.i
    walk_at "run"
    intro ob hob
    have fob := w3.fresh hob
    have hob2 := none_back w4 hob (by simp)
    have nob1 : ob ≠ pd := fun e => by rw [e, w1] at hob; cases hob
    have nob2 : ob ≠ qa := fun e => by rw [e, w2] at hob; cases hob
    walk_at "run"
    have hcl := reach_closed hR (fun a ha => by simp at ha)
    refine ⟨fun j ρ S => (∃ v5 v6 v7 v8, ρ = [some (.ref p), some (.tup (M.1.map encV)), some (.ref qa), some (.ref pd), some (.ref ob), v5, v6, v7, v8, none, none, none]) ∧ S ob = some (.list (((sortI R).take j).map fun a => encO (newO M.2.old (plK (sortI R)) a))) ∧
      S pd = some (.dict (encP (plK (sortI R)))) ∧ S qa = some (.list ((sortI R).map D.int)) ∧ HAt C1 S p yl1 ol rd1 room M.2 ∧ Keep [] S2 S, ⟨⟨_, _, _, _, rfl⟩, supd_same, by rw [supd_ne nob1.symm]; exact w1, by rw [supd_ne nob2.symm]; exact w2, w3.upd fob, Keep.nw hob2 w4⟩, ?_⟩
    rintro j ρ S hj ⟨⟨v5, v6, v7, v8, rfl⟩, x1, x2, x3, x4, x5⟩
    refine ⟨x3, fun d hd => ?_, fun e => ?_⟩
    · obtain ⟨a, ha, rfl⟩ := map_get hd
      have haR := sortI_mem.mp (List.mem_of_getElem? ha)
      have hrg := rgR a haR
      have hi : a.toNat < M.2.old.length := by omega
      have ho : M.2.old[a.toNat]? = some M.2.old[a.toNat] := List.getElem?_eq_getElem hi
      have g1 : atI (M.2.old.map encO) a = some (encO M.2.old[a.toNat]) := atI_i hrg.1 (by rw [List.getElem?_map, ho]; rfl)
      have y1 := x4.i; have y2 := x4.o
      have hok := wr.ok _ (List.getElem_mem hi)
      walk_at "run"
      intro cl hcl2
      have fcl := x4.fresh hcl2
      have ncl1 : cl ≠ ob := fun e => by rw [e, x1] at hcl2; cases hcl2
      have ncl2 : cl ≠ pd := fun e => by rw [e, x2] at hcl2; cases hcl2
      have ncl3 : cl ≠ qa := fun e => by rw [e, x3] at hcl2; cases hcl2
      have hcl3 := none_back x5 hcl2 (by simp)
      refine ⟨fun n S' => S' cl = some (.list (((M.2.old[a.toNat].fs.take n).map (placedF (plK (sortI R)))).map encV)) ∧ S' ob = some (.list (((sortI R).take j).map fun a => encO (newO M.2.old (plK (sortI R)) a))) ∧
        S' pd = some (.dict (encP (plK (sortI R)))) ∧ S' qa = some (.list ((sortI R).map D.int)) ∧ HAt C1 S' p yl1 ol rd1 room M.2 ∧ Keep [] S2 S', ⟨supd_same, by rw [supd_ne ncl1.symm]; exact x1, by rw [supd_ne ncl2.symm]; exact x2, by rw [supd_ne ncl3.symm]; exact x3, x4.upd fcl, Keep.nw hcl3 x5⟩, ?_⟩
      rintro n S' hn ⟨z1, z2, z3, z4, z5, z6⟩
      refine ⟨trivial, fun d hd => ?_, fun e => ?_⟩
      · obtain ⟨v, hv, rfl⟩ := map_get hd
        walk_at "run"
        refine ⟨v, pd, _, rfl, z3, fun c => ?_, ?_⟩
        · have hin := hcl a haR _ ho v (List.mem_of_getElem? hv) c
          obtain ⟨k, hk, _⟩ := plK_look (sortI_mem.mpr hin)
          exact ⟨k, hk⟩
        · have hl : (((M.2.old[a.toNat].fs.take n).map (placedF (plK (sortI R)))).map encV).length < sizeLine := by
            rw [List.length_map, List.length_map, List.length_take]
            have := hok.2
            exact Nat.lt_trans (by omega : _ < 1000) (by decide)
          refine ⟨_, z1, hl, ?_⟩
          show _ ∧ _ ∧ _ ∧ _ ∧ _ ∧ _
          rw [take_snoc hv, List.map_append, List.map_append]
          exact ⟨supd_same, by rw [supd_ne ncl1.symm]; exact z2, by rw [supd_ne ncl2.symm]; exact z3, by rw [supd_ne ncl3.symm]; exact z4, z5.upd fcl, Keep.nw hcl3 z6⟩
      · have e : M.2.old[a.toNat].fs.take n = M.2.old[a.toNat].fs := List.take_of_length_le (by rw [e, List.length_map]; exact Nat.le_refl _)
        rw [e] at z1
        have hl2 : (((sortI R).take j).map fun a => encO (newO M.2.old (plK (sortI R)) a)).length < sizeLine := by
          rw [List.length_map, List.length_take, sortI_len]
          exact Nat.lt_trans (by omega : _ < 10001) (by decide)
        walk_at "run"
        refine ⟨⟨_, _, _, _, rfl⟩, ?_, by rw [supd_ne nob1.symm]; exact z3, by rw [supd_ne nob2.symm]; exact z4, z5.upd fob, Keep.nw hob2 z6⟩
        rw [take_snoc ha, List.map_append]
        have en : newO M.2.old (plK (sortI R)) a = ⟨M.2.old[a.toNat].kind, M.2.old[a.toNat].word, M.2.old[a.toNat].fs.map (placedF (plK (sortI R)))⟩ := by unfold newO; rw [ho]
        rw [List.map_singleton, en]
        exact supd_same
    · have e : (sortI R).take j = sortI R := List.take_of_length_le (by rw [e, List.length_map]; exact Nat.le_refl _)
      rw [e] at x1
      have y1 := x4.i
      have fob2 := fob
      simp only [List.mem_cons, List.not_mem_nil, or_false, not_or] at fob2
      have nob3 := fob2.1
      walk_at "run"
      intro cl hcl2
      obtain ⟨ncl0, hcl2⟩ := sno.mp hcl2
      have fcl := x4.fresh hcl2
      simp only [List.mem_cons, List.not_mem_nil, or_false, not_or] at fcl
      have ncl1 : cl ≠ ob := fun e => by rw [e, x1] at hcl2; cases hcl2
      have ncl2 : cl ≠ pd := fun e => by rw [e, x2] at hcl2; cases hcl2
      have hcl3 := none_back x5 hcl2 (by simp)
      have npd : p ≠ pd := fun e => fpd (by simp [e])
      have x1' : S ob = some (.list ((keptO M.2.old R).map encO)) := by rw [x1]; unfold keptO; rw [List.map_map]; rfl
      have HF : HAt C1 (supd S p (.ins C1 (fsH room yl1 ob rd1))) p yl1 ob rd1 room ⟨M.2.young, keptO M.2.old R, M.2.rem⟩ :=
        ⟨supd_same, by rw [supd_ne x4.py.symm]; exact x4.y, by rw [supd_ne nob3]; exact x1', by rw [supd_ne x4.pr.symm]; exact x4.r, fun e => fob2.2.1 e.symm⟩
      refine ⟨fun n S' => S' cl = some (.list (((M.1.take n).map (placedF (plK (sortI R)))).map encV)) ∧ S' pd = some (.dict (encP (plK (sortI R)))) ∧ HAt C1 S' p yl1 ob rd1 room ⟨M.2.young, keptO M.2.old R, M.2.rem⟩ ∧ Keep [p] S2 S', ⟨supd_same, ?_, ?_, ?_⟩, ?_⟩
      · rw [supd_ne ncl2.symm, supd_ne (Ne.symm npd)]; exact x2
      · exact HF.upd (by simp [fcl.1, fcl.2.1, fcl.2.2.2, ncl1])
      · exact Keep.nw hcl3 (Keep.upd (by simp) (x5.mono (by simp)))
      rintro n S' hn ⟨z1, z2, z3, z4⟩
      refine ⟨trivial, fun d hd => ?_, fun e => ?_⟩
      · obtain ⟨v, hv, rfl⟩ := map_get hd
        walk_at "run"
        refine ⟨v, pd, _, rfl, z2, fun c => ?_, ?_⟩
        · have hin := reach_left hR v (List.mem_of_getElem? hv) c
          obtain ⟨k, hk, _⟩ := plK_look (sortI_mem.mpr hin)
          exact ⟨k, hk⟩
        · have hl : (((M.1.take n).map (placedF (plK (sortI R)))).map encV).length < sizeLine := by
            rw [List.length_map, List.length_map, List.length_take]
            exact Nat.lt_trans (by omega : _ < 1000) (by decide)
          refine ⟨_, z1, hl, ?_⟩
          show _ ∧ _ ∧ _ ∧ _
          rw [take_snoc hv, List.map_append, List.map_append]
          exact ⟨supd_same, by rw [supd_ne ncl2.symm]; exact z2, z3.upd (by simp [fcl.1, fcl.2.1, fcl.2.2.2, ncl1]), Keep.nw hcl3 z4⟩
      · have e : M.1.take n = M.1 := List.take_of_length_le (by rw [e, List.length_map]; exact Nat.le_refl _)
        rw [e] at z1
        walk_at "run"
        have hy : M.2.young = [] := by rw [← hM]; rfl
        have hr : M.2.rem = [] := by rw [← hM]; rfl
        rw [hy, hr] at z3
        refine less_same (q R _ yl1 ob rd1 hR ndR rgR hy1 (back1 (back2 hob2)) hd1 z3 ?_)
        refine k1.trans ((k2.mono (by simp)).trans (z4.mono (by simp)))
end
end K57

namespace K57
open PySem L2 PySem.Spec PyProof.Rows DL
/-! ### the draws -/
def DrawAt (S : Sto) (dl : Addr) : Prop := ∃ x y, S dl = some (.list [.int x, .int y]) ∧ 0 ≤ y ∧ y < 2147483647
def sp_take : DSp := fun ds S Q => ∃ dl many, ds = [.ref dl, .int many] ∧ DrawAt S dl ∧ 0 < many ∧ many < 1073741824 ∧ ∀ r S', 0 ≤ r → r < many → DrawAt S' dl → Keep [dl] S S' → Q (.int r) S'
def sp_draw : DSp := fun ds S Q => ∃ ns : List Int, ds = [.lit (ns.map D.int)] ∧ ∀ dl S', S dl = none → DrawAt S' dl → Keep [] S S' → Q (.ref dl) S'
section
variable {K : PySem.W.Frag} {mg : Str → Option Value} {C1 C2 : Addr}
theorem ok_take : ∀ ds St Q, sp_take ds St Q → R__law_take K C1 C2 { nx := fun _ S' => Q.less .non S', rt := Q.less } (startD N__law_take ds) St := by
  rintro ds St Q ⟨dl, many, rfl, ⟨x, y, hd, y0, y1⟩, m0, m1, q⟩
  have hm2 : (0 : Int) < 2147483647 := by decide
  unfold R__law_take
  walk_at "run"
  refine r_ifd (P := 0 < x) (fun c => ?_) (fun c => ?_)
  · have g1 : ixN [D.int x, D.int y].length 0 = some 0 := rfl
    have g2 : 0 < many ∧ many < 1073741824 := ⟨m0, m1⟩
    walk_at "run"
    exact less_same (q _ _ (Int.emod_nonneg _ (by omega)) (Int.emod_lt_of_pos _ m0) ⟨_, _, supd_same, y0, y1⟩ (by walk_at "keep"))
  · have g1 : ixN [D.int x, D.int y].length 1 = some 1 := rfl
    have g3 : CMul y 48271 := .inr (by decide)
    walk_at "run"
    have e : ∀ z : Int, ([D.int x, D.int y].set 1 (D.int z)) = [D.int x, D.int z] := fun z => rfl
    rw [e]
    have g4 : (0 : Int) < 7 ∧ (7 : Int) < 1073741824 := by decide
    walk_at "run"
    exact less_same (q _ _ (Int.emod_nonneg _ (by omega)) (Int.emod_lt_of_pos _ m0) ⟨_, _, supd_same, Int.emod_nonneg _ (by decide), Int.emod_lt_of_pos _ (by decide)⟩ (by walk_at "keep"))
theorem ok_draw : ∀ ds St Q, sp_draw ds St Q → R__law_draw K C1 C2 { nx := fun _ S' => Q.less .non S', rt := Q.less } (startD N__law_draw ds) St := by
  rintro ds St Q ⟨ns, rfl, q⟩
  have hm2 : (0 : Int) < 2147483647 := by decide
  unfold R__law_draw
  walk_at "run"
  refine ⟨fun i ρ S => S = St ∧ ∃ seed v, 0 ≤ seed ∧ seed < 2147483647 ∧ ρ = [some (.lit (ns.map D.int)), some (.int seed), v, none], ⟨rfl, 12345, none, by decide, by decide, rfl⟩, ?_⟩
  rintro i ρ S hi ⟨rfl, seed, v, s0, s1, rfl⟩
  have g3 : ∀ z, CMul seed z := fun z => .inl (by omega)
  refine ⟨trivial, fun d hd => ?_, fun e => ?_⟩
  · have hx : ∃ x : Int, d = .int x := by
      have hd : (ns.map D.int)[i]? = some d := hd
      rw [List.getElem?_map] at hd
      cases e : ns[i]? with
      | none => rw [e] at hd; cases hd
      | some x => rw [e] at hd; exact ⟨x, (Option.some.inj hd).symm⟩
    obtain ⟨x, rfl⟩ := hx
    have g3' := g3 69621
    walk_at "run"
    exact ⟨rfl, _, _, Int.emod_nonneg _ (by decide), Int.emod_lt_of_pos _ (by decide), rfl⟩
  · have g3' := g3 48271
    have tail : ∀ (f : Int) (p : Addr), S p = none → Q.less (.ref p) (supd S p (.list [.int f, .int ((seed * 48271 + 7) % 2147483647)])) := fun f p hp =>
      less_same (q p _ hp ⟨_, _, supd_same, Int.emod_nonneg _ (by decide), Int.emod_lt_of_pos _ (by decide)⟩ (Keep.new1 hp))
    walk_at "run"
    refine r_ifd (P := (0 : Int) < ((ns.map D.int).length : Nat)) (fun c => ?_) (fun c => ?_)
    · cases ns with
      | nil => simp at c
      | cons n0 nr =>
        have g5 : (0 : Int) ≤ 18 ∧ (18 : Int) ≤ 1000000 ∧ (10 : Int).natAbs < 2 ^ 64 := by decide
        have g6 : atI ((n0 :: nr).map D.int) 0 = some (.int n0) := atI_z _ _
        walk_at "run"
        refine r_ifd (fun c2 => ?_) (fun c2 => ?_)
        · walk_at "run"
          exact tail _
        · walk_at "run"
          exact tail _
    · walk_at "run"
      exact tail _
end

/-! ### the law's store: twins -/
abbrev Tw := Val
def idAt (yi oi : List Nat) (a : Int) : Option Nat := if a < 0 then yi[(-a - 1).toNat]? else oi[a.toNat]?
def Rv (yi oi : List Nat) (v t : Val) : Prop := (t.1 = "no" ∧ v.1 = "at" ∧ 0 ≤ t.2 ∧ idAt yi oi v.2 = some t.2.toNat) ∨ (t.1 = "int" ∧ v = t)
structure Ro (yi oi : List Nat) (o s : Ob) : Prop where
  kind : o.kind = s.kind
  word : ∃ w, o.word = .int w ∧ s.word = .int w
  len : o.fs.length = s.fs.length
  fs : ∀ (i : Nat) v t, o.fs[i]? = some v → s.fs[i]? = some t → Rv yi oi v t
  few : s.fs.length < 1000
structure Corr (h : He) (yi oi : List Nat) (st : List Ob) : Prop where
  ly : yi.length = h.young.length
  lo : oi.length = h.old.length
  y : ∀ (i : Nat) o k, h.young[i]? = some o → yi[i]? = some k → ∃ s, st[k]? = some s ∧ Ro yi oi o s
  o : ∀ (i : Nat) o k, h.old[i]? = some o → oi[i]? = some k → ∃ s, st[k]? = some s ∧ Ro yi oi o s
theorem Corr.at {h : He} {yi oi : List Nat} {st : List Ob} (c : Corr h yi oi st) {a : Int} {k : Nat} (e : idAt yi oi a = some k) : ∃ o s, objAt h a = some o ∧ st[k]? = some s ∧ Ro yi oi o s := by
  unfold idAt at e
  unfold objAt
  by_cases n : a < 0
  · rw [if_pos n] at e ⊢
    have hi := (List.getElem?_eq_some_iff.mp e).1
    rw [c.ly] at hi
    obtain ⟨s, h1, h2⟩ := c.y _ _ k (List.getElem?_eq_getElem hi) e
    exact ⟨_, s, List.getElem?_eq_getElem hi, h1, h2⟩
  · rw [if_neg n] at e ⊢
    have hi := (List.getElem?_eq_some_iff.mp e).1
    rw [c.lo] at hi
    obtain ⟨s, h1, h2⟩ := c.o _ _ k (List.getElem?_eq_getElem hi) e
    exact ⟨_, s, List.getElem?_eq_getElem hi, h1, h2⟩
def sp_alike (C1 : Addr) (n : Nat) : DSp := fun ds S Q => ∃ v t p sl yl ol rd room h st yi oi, ds = [encV v, encV t, .ref p, .ref sl, .int (n : Nat)] ∧ HAt C1 S p yl ol rd room h ∧ S sl = some (.list (st.map encO)) ∧ Corr h yi oi st ∧ Rv yi oi v t ∧ Q (.bl true) S
theorem strOkI : PyData.strOk ("int" : Str) = true := by decide +kernel
theorem okV {v : Val} (h : v.1 = "int") : okD (encV v) = true := by
  unfold okD encV
  rw [h]
  simp [noref, norefL, pyd, pydL, SeqAt.shaped, PyData.canLay0, PyData.canLayAll0, PyData.depth, PyData.depthAll, strOkI]
theorem deqV (v : Val) : deq (encV v) (encV v) = true := by
  unfold deq
  simp [pyd, pydL, PyData.eqv, PyData.eqvAll]
section
variable {K : PySem.W.Frag} {mg : Str → Option Value} {C1 C2 : Addr}
def spA (C1 : Addr) : Nat → DSp
  | 0 => fun _ _ _ => False
  | n + 1 => sp_alike C1 n
theorem ok_alike (n : Nat) : ∀ ds St Q, sp_alike C1 n ds St Q → R__law_alike K C1 C2 (sp_look C1) (spA C1 n) (Ends Q) (startD N__law_alike ds) St := by
  rintro ds St Q ⟨v, t, p, sl, yl, ol, rd, room, h, st, yi, oi, rfl, H, hs, c, r, q⟩
  have i0 := H.i
  unfold R__law_alike
  rcases r with ⟨t1, v1, t2, hid⟩ | ⟨t1, rfl⟩
  · obtain ⟨o, s, ho, hst, ro⟩ := c.at hid
    obtain ⟨w, w1, w2⟩ := ro.word
    have hk := ro.kind
    have hl : ((o.fs.map encV).length : Int) = ((s.fs.map encV).length : Int) := by rw [List.length_map, List.length_map, ro.len]
    have g2 : atI (st.map encO) t.2 = some (encO s) := atI_i t2 (by rw [List.getElem?_map, hst]; rfl)
    walk_at "run"
    refine r_ifd (P := (n : Int) = 0) (fun c0 => ?_) (fun c0 => ?_)
    · walk_at "run"
      exact less_same q
    · walk_at "run"
      refine ⟨p, yl, ol, rd, room, h, v, o, rfl, H, ho, ?_⟩
      walk_at "run"
      rw [w1, w2]
      walk_at "run"
      obtain ⟨n', rfl⟩ : ∃ n', n = n' + 1 := ⟨n - 1, by omega⟩
      refine ⟨fun i ρ S => S = St ∧ ∃ v7 v8, ρ = [some (encV v), some (encV t), some (.ref p), some (.ref sl), some (.int ((n' + 1 : Nat) : Int)), some (encO o), some (encO s), v7, v8], ⟨rfl, none, none, rfl⟩, ?_⟩
      rintro i ρ S hi ⟨rfl, v7, v8, rfl⟩
      refine ⟨trivial, fun d hd => ?_, fun e => ?_⟩
      · obtain ⟨u, hu, rfl⟩ := enum_get hd
        have hi2 : i < o.fs.length := by rw [ro.len]; exact (List.getElem?_eq_some_iff.mp hu).1
        have hx : o.fs[i]? = some o.fs[i] := List.getElem?_eq_getElem hi2
        have g3 : atI (o.fs.map encV) (i : Int) = some (encV o.fs[i]) := atI_n (by rw [List.getElem?_map, hx]; rfl)
        walk_at "run"
        refine ⟨o.fs[i], u, p, sl, yl, ol, rd, room, h, st, yi, oi, ?_, H, hs, c, ro.fs i _ _ hx hu, ?_⟩
        · rw [show ((n' + 1 : Nat) : Int) - 1 = (n' : Nat) by omega]
        · walk_at "run"
          exact ⟨rfl, _, _, rfl⟩
      · walk_at "run"
        exact less_same q
  · have g0 : ¬ v.1 = "no" := by rw [t1]; decide +kernel
    have g1 := okV t1
    walk_at "run"
    rw [deqV]
    exact less_same q
/-! ### roots -/
abbrev Rt := Val × Val
abbrev encRt (r : Rt) : D := .tup [encV r.1, encV r.2]
def PickOk (rs : List Rt) (r : Rt) : Prop := r ∈ rs ∨ ∃ n : Int, r = ((("int" : Str), n), (("int" : Str), n))
def sp_pick : DSp := fun ds S Q => ∃ dl rl rs, ds = [.ref dl, .ref rl] ∧ DrawAt S dl ∧ S rl = some (.list (rs.map encRt)) ∧ rs.length < 1000 ∧ dl ≠ rl ∧ ∀ r S', PickOk rs r → DrawAt S' dl → Keep [dl] S S' → Q (encRt r) S'
theorem at_lt {α : Type} {l : List α} {r : Int} (h0 : 0 ≤ r) (h1 : r < (l.length : Nat)) : ∃ x, x ∈ l ∧ atI l r = some x ∧ l[r.toNat]? = some x := by
  have hi : r.toNat < l.length := by omega
  exact ⟨l[r.toNat], List.getElem_mem _, atI_i h0 (List.getElem?_eq_getElem hi), List.getElem?_eq_getElem hi⟩
theorem ok_pick : ∀ ds St Q, sp_pick ds St Q → R__law_pick K C1 C2 sp_take (Ends Q) (startD N__law_pick ds) St := by
  rintro ds St Q ⟨dl, rl, rs, rfl, hd, hr, hl, ne, q⟩
  unfold R__law_pick
  walk_at "run"
  rw [List.length_map]
  refine r_ifd (P := (0 : Int) < (rs.length : Nat)) (fun c => ?_) (fun c => ?_)
  · walk_at "run"
    refine ⟨dl, 5, rfl, hd, by decide, by decide, fun r S1 _ _ d1 k1 => ?_⟩
    have hr1 := k1 _ _ hr (by simp [ne.symm])
    walk_at "run"
    refine r_ifd (P := 0 < r) (fun c2 => ?_) (fun c2 => ?_)
    · walk_at "run"
      rw [List.length_map]
      refine ⟨dl, _, rfl, d1, c, by omega, fun r2 S2 h0 h1 d2 k2 => ?_⟩
      have hr2 := k2 _ _ hr1 (by simp [ne.symm])
      obtain ⟨x, x1, _, x2⟩ := at_lt h0 h1
      have g : atI (rs.map encRt) r2 = some (encRt x) := atI_i h0 (by rw [List.getElem?_map, x2]; rfl)
      walk_at "run"
      exact less_same (q x _ (.inl x1) d2 (k1.trans k2))
    · walk_at "run"
      refine ⟨dl, 7, rfl, d1, by decide, by decide, fun r2 S2 _ _ d2 k2 => ?_⟩
      walk_at "run"
      exact less_same (q ((("int" : Str), r2), (("int" : Str), r2)) _ (.inr ⟨r2, rfl⟩) d2 (k1.trans k2))
  · walk_at "run"
    refine ⟨dl, 7, rfl, hd, by decide, by decide, fun r2 S2 _ _ d2 k2 => ?_⟩
    walk_at "run"
    exact less_same (q ((("int" : Str), r2), (("int" : Str), r2)) _ (.inr ⟨r2, rfl⟩) d2 k2)
/-- a new object and its twin -/
structure NewOk (rs : List Rt) (o s : Ob) : Prop where
  kind : o.kind = s.kind
  word : ∃ w, o.word = .int w ∧ s.word = .int w
  rf : s.kind = "ref" → s.word = .int 0
  fs : ∃ ps : List Rt, o.fs = ps.map (·.1) ∧ s.fs = ps.map (·.2) ∧ (∀ x ∈ ps, PickOk rs x) ∧ ps.length < 10
def sp_lmake (C1 : Addr) : DSp := fun ds S Q => ∃ dl p sl rl yl ol rd room h st rs, ds = [.ref dl, .ref p, .ref sl, .ref rl] ∧ DrawAt S dl ∧ HAt C1 S p yl ol rd room h ∧ h.young.length < 10000 ∧ S sl = some (.list (st.map encO)) ∧ st.length < 10000 ∧ S rl = some (.list (rs.map encRt)) ∧ rs.length < 1000 ∧
  dl ∉ [p, yl, ol, rd] ∧ dl ≠ sl ∧ dl ≠ rl ∧ sl ≠ yl ∧ rl ≠ yl ∧ sl ≠ rl ∧ sl ≠ ol ∧
  ∀ o s S', NewOk rs o s → DrawAt S' dl → HAt C1 S' p yl ol rd room { h with young := h.young ++ [o] } → S' sl = some (.list ((st ++ [s]).map encO)) → Keep [dl, yl, sl] S S' → Q (encRt (atV (-(h.young.length + 1)), (("no" : Str), (st.length : Int)))) S'
theorem DrawAt.keep {S S' : Sto} {dl : Addr} {L : List Addr} (d : DrawAt S dl) (k : Keep L S S') (n : dl ∉ L) : DrawAt S' dl := let ⟨x, y, h, a, b⟩ := d; ⟨x, y, k _ _ h n, a, b⟩
theorem DrawAt.ne {S : Sto} {dl q : Addr} (d : DrawAt S dl) (h : S q = none) : q ≠ dl := fun e => by obtain ⟨x, y, g, _⟩ := d; rw [e, g] at h; cases h
theorem ok_lmake (T : Top K mg C1 C2) : ∀ ds St Q, sp_lmake C1 ds St Q → R__law_make K C1 C2 sp_take sp_pick (sp_make C1) (Ends Q) (startD N__law_make ds) St := by
  rintro ds St Q ⟨dl, p, sl, rl, yl, ol, rd, room, h, st, rs, rfl, hd, H, hyl, hs, hsl, hr, hrl, n1, n2, n3, n4, n5, n6, n7, q⟩
  unfold R__law_make
  walk_at "run"
  intro k0 hk0
  have m0 := hd.ne hk0
  have d0 : DrawAt (supd St k0 (.list [.str "tuple", .str "make", .str "pack", .str "close", .str "ref", .str "ref"])) dl := hd.keep (Keep.new1 hk0 (L := [])) (by simp)
  walk_at "run"
  refine ⟨dl, 6, rfl, d0, by decide, by decide, fun r S1 h0 h1 d1 k1 => ?_⟩
  have g0 : S1 k0 = some (.list [.str "tuple", .str "make", .str "pack", .str "close", .str "ref", .str "ref"]) := k1 _ _ supd_same (by simp [m0])
  obtain ⟨kind, g1⟩ : ∃ kind : Str, atI [D.str "tuple", .str "make", .str "pack", .str "close", .str "ref", .str "ref"] r = some (.str kind) := by
    obtain ⟨x, x1, x2, _⟩ := at_lt (l := [D.str "tuple", .str "make", .str "pack", .str "close", .str "ref", .str "ref"]) h0 (by simpa using h1)
    simp at x1
    rcases x1 with e | e | e | e | e <;> exact ⟨_, by rw [x2, e]⟩
  have kk1 : Keep [dl] St S1 := (Keep.new1 hk0).trans k1
  walk_at "run"
  refine r_cut (fun ρ S => (∃ many : Nat, many < 10 ∧ ρ = [some (.ref dl), some (.ref p), some (.ref sl), some (.ref rl), some (.str kind), some (.int (many : Nat)), none, none, none, none, none]) ∧ DrawAt S dl ∧ Keep [dl] St S) ?_ (fun nx hn => r_if (fun _ => ?_) (fun _ => ?_))
  rotate_left
  · walk_at "run"
    refine ⟨dl, 3, rfl, d1, by decide, by decide, fun r2 S2 h2 h3 d2 k2 => ?_⟩
    walk_at "run"
    refine hn _ _ ⟨⟨(1 + r2).toNat, by omega, ?_⟩, d2, kk1.trans k2⟩
    rw [Int.toNat_of_nonneg (by omega)]
    rfl
  · walk_at "run"
    exact hn _ _ ⟨⟨1, by decide, rfl⟩, d1, kk1⟩
  rintro ρ S2 ⟨⟨many, hm, rfl⟩, d2, kk2⟩
  walk_at "run"
  refine r_cut (fun ρ S => (∃ word : Int, (kind = "ref" → word = 0) ∧ ρ = [some (.ref dl), some (.ref p), some (.ref sl), some (.ref rl), some (.str kind), some (.int (many : Nat)), some (.int word), none, none, none, none]) ∧ DrawAt S dl ∧ Keep [dl] St S) ?_ (fun nx hn => r_if (fun hc => ?_) (fun _ => ?_))
  rotate_left
  · walk_at "run"
    refine ⟨dl, 5, rfl, d2, by decide, by decide, fun r2 S2 h2 h3 d2 k2 => ?_⟩
    walk_at "run"
    exact hn _ _ ⟨⟨_, fun e => by rw [e] at hc; exact absurd hc (by decide +kernel), rfl⟩, d2, kk2.trans k2⟩
  · walk_at "run"
    exact hn _ _ ⟨⟨_, fun _ => rfl, rfl⟩, d2, kk2⟩
  rintro ρ S3 ⟨⟨word, hword, rfl⟩, d3, kk3⟩
  have hmm : -(2 ^ 62 : Int) ≤ (many : Nat) ∧ ((many : Nat) : Int) < 2 ^ 62 := by omega
  obtain ⟨hm1, hm2⟩ := hmm
  walk_at "run"
  intro cl hcl
  have hcl0 := none_back kk3 hcl (by intro a ha; simp at ha; rw [ha]; obtain ⟨x, y, g, _⟩ := d3; rw [g]; simp)
  have ncl := d3.ne hcl
  have ncr : cl ≠ rl := fun e => by rw [e, hr] at hcl0; cases hcl0
  refine ⟨fun j S => ∃ ps : List Rt, ps.length = j ∧ (∀ x ∈ ps, PickOk rs x) ∧ S cl = some (.list (ps.map encRt)) ∧ DrawAt S dl ∧ Keep [dl] St S, ⟨[], rfl, by simp, supd_same, d3.keep (Keep.new1 hcl (L := [])) (by simp), Keep.nw hcl0 kk3⟩, ?_⟩
  rintro j S hj ⟨ps, w1, w2, w3, w4, w5⟩
  have hj2 : j ≤ many := by
    have : j ≤ (rngD 0 ((many : Nat) : Int).toNat).length := hj
    rw [rngD_length] at this
    omega
  refine ⟨trivial, fun d hd' => ?_, fun e => ?_⟩
  · walk_at "run"
    refine ⟨dl, rl, rs, rfl, w4, w5 _ _ hr (by simp [Ne.symm n3]), hrl, n3, fun x S' hx d4 k4 => ?_⟩
    refine ⟨_, k4 _ _ w3 (by simp [ncl]), ?_, ps ++ [x], by rw [List.length_append, w1]; rfl, ?_, ?_, ?_, ?_⟩
    · rw [List.length_map, w1]; exact Nat.lt_trans (by omega : _ < 1000) (by decide)
    · intro y hy
      rcases List.mem_append.mp hy with z | z
      · exact w2 y z
      · simp at z; rw [z]; exact hx
    · rw [List.map_append]; exact supd_same
    · obtain ⟨x, y, g, a, b⟩ := d4
      exact ⟨x, y, by rw [supd_ne (Ne.symm ncl)]; exact g, a, b⟩
    · exact Keep.nw hcl0 (w5.trans k4)
  · have n1' : dl ≠ p ∧ dl ≠ yl ∧ dl ≠ ol ∧ dl ≠ rd := by simpa using n1
    have HS : HAt C1 S p yl ol rd room h := H.keep w5 (by simp [Ne.symm n1'.1]) (by simp [Ne.symm n1'.2.1]) (by simp [Ne.symm n1'.2.2.1]) (by simp [Ne.symm n1'.2.2.2])
    have i0 := HS.i
    have hps : ps.length ≤ 9 := by omega
    walk_at "run"
    refine lc_map (fun d => match d with | .tup (a :: _) => a | d => d) ?_ ?_ ?_ ?_
    · show (ps.map encRt).length ≤ _
      rw [List.length_map]; exact Nat.le_trans hps (by decide)
    · exact fun S' k => k _ _ w3 (by simp)
    · intro i d S' Q' e hd0 k0 hq
      obtain ⟨x, hx, rfl⟩ := map_get hd0
      walk_at "run"
      exact hq S' (Keep.refl _ _)
    intro c1 S5 hc1 hS5 k5
    walk_at "run"
    have H5 := HS.keep k5 (by simp) (by simp) (by simp) (by simp)
    have em : ∀ f : D → D, (ps.map encRt).map f = ps.map fun x => f (encRt x) := fun f => by rw [List.map_map]; rfl
    refine ⟨p, yl, ol, rd, room, h, ⟨kind, .int word, ps.map (·.1)⟩, ?_, H5, hyl, ?_⟩
    · show [D.ref p, .str kind, .int word, .tup _] = [D.ref p, .str kind, .int word, .tup _]
      rw [em, List.map_map]
      rfl
    have H6 := H5.setY (h.young ++ [(⟨kind, .int word, ps.map (·.1)⟩ : Ob)])
    have ncy : cl ≠ yl := (H.fresh hcl0 |> fun z => by simp at z; exact z.2.1)
    have hk6 : supd S5 yl (.list ((h.young ++ [(⟨kind, .int word, ps.map (·.1)⟩ : Ob)]).map encO)) cl = some (.list (ps.map encRt)) := by rw [supd_ne ncy]; exact k5 _ _ w3 (by simp)
    have hsl6 : supd S5 yl (.list ((h.young ++ [(⟨kind, .int word, ps.map (·.1)⟩ : Ob)]).map encO)) sl = some (.list (st.map encO)) := by rw [supd_ne n4]; exact k5 _ _ (w5 _ _ hs (by simp [Ne.symm n2])) (by simp)
    walk_at "run"
    refine lc_map (fun d => match d with | .tup (_ :: a :: _) => a | d => d) ?_ ?_ ?_ ?_
    · show (ps.map encRt).length ≤ _
      rw [List.length_map]; exact Nat.le_trans hps (by decide)
    · exact fun S' k => k _ _ hk6 (by simp)
    · intro i d S' Q' e hd0 k0 hq
      obtain ⟨x, hx, rfl⟩ := map_get hd0
      walk_at "run"
      exact hq S' (Keep.refl _ _)
    intro c2 S7 hc2 hS7 k7
    have hsl7 := k7 _ _ hsl6 (by simp)
    have hl7 : (st.map encO).length < sizeLine := by rw [List.length_map]; exact Nat.lt_trans hsl (by decide)
    walk_at "run"
    have H7 := H6.keep k7 (by simp) (by simp) (by simp) (by simp)
    have es : (st.map encO ++ [D.tup [.str kind, .int word, .tup ((ps.map encRt).map fun d => match d with | .tup (_ :: a :: _) => a | d => d)]]) = (st ++ [(⟨kind, .int word, ps.map (·.2)⟩ : Ob)]).map encO := by
      rw [List.map_append, em]; simp [Function.comp_def]
    rw [es]
    have el : ((((st ++ [(⟨kind, .int word, ps.map (·.2)⟩ : Ob)]).map encO).length : Nat) : Int) - 1 = (st.length : Int) := by simp
    rw [el]
    have q1 := q ⟨kind, .int word, ps.map (·.1)⟩ ⟨kind, .int word, ps.map (·.2)⟩ (supd S7 sl (.list ((st ++ [(⟨kind, .int word, ps.map (·.2)⟩ : Ob)]).map encO))) ⟨rfl, ⟨word, rfl, rfl⟩, fun e => by rw [hword e], ps, rfl, rfl, w2, by omega⟩
    have hnsp : sl ≠ p := ne_of hs H.i (by simp)
    have hnsr : sl ≠ rd := ne_of hs H.r (by simp)
    refine less_same (q1 ?_ (H7.upd (by simp [hnsp, n4, n7, hnsr])) supd_same ?_)
    · obtain ⟨x, y, gx, a, b⟩ := w4
      refine ⟨x, y, ?_, a, b⟩
      rw [supd_ne n2]
      refine k7 _ _ ?_ (by simp)
      rw [supd_ne n1'.2.1]
      exact k5 _ _ gx (by simp)
    · refine Keep.upd (by simp) ?_
      have e1 : Keep [dl, yl, sl] St S := w5.mono (by simp)
      have e2 : Keep [dl, yl, sl] S S5 := k5.mono (by simp)
      exact (Keep.upd (by simp) (e1.trans e2)).trans (k7.mono (by simp))
end
end K57

namespace K57
open PySem L2 PySem.Spec PyProof.Rows DL
/-! ### the plain law: what the deeds keep -/
structure Good (h : He) (yi oi : List Nat) (st : List Ob) (rs : List Rt) : Prop where
  c : Corr h yi oi st
  nd : (yi ++ oi).Nodup
  rt : ∀ r ∈ rs, Rv yi oi r.1 r.2
  rm1 : ∀ (i : Nat) o, h.old[i]? = some o → (∃ v ∈ o.fs, isY v = true) → (i : Int) ∈ h.rem
  rm2 : ∀ a ∈ h.rem, 0 ≤ a ∧ a < (h.old.length : Int)
  ref : ∀ s ∈ st, s.kind = "ref" → s.word = .int 0
theorem isY_iff {v : Val} : isY v = true ↔ v.1 = "at" ∧ v.2 < 0 := by unfold isY; simp
theorem Rv.yok {yi oi : List Nat} {v t : Val} (r : Rv yi oi v t) : YOk yi.length v := by
  intro hy
  obtain ⟨h1, h2⟩ := isY_iff.mp hy
  rcases r with ⟨_, _, _, e⟩ | ⟨e1, e2⟩
  · unfold idAt at e
    rw [if_pos h2] at e
    have := (List.getElem?_eq_some_iff.mp e).1
    omega
  · rw [← e2, h1] at e1
    exact absurd e1 (by decide +kernel)
theorem Rv.vok {oi : List Nat} {v t : Val} (r : Rv [] oi v t) : VOk oi.length v := by
  intro h1
  rcases r with ⟨_, _, _, e⟩ | ⟨e1, e2⟩
  · unfold idAt at e
    split at e
    · simp at e
    · have := (List.getElem?_eq_some_iff.mp e).1
      omega
  · rw [← e2, h1] at e1
    exact absurd e1 (by decide +kernel)
theorem Ro.each {yi oi : List Nat} {o s : Ob} (r : Ro yi oi o s) {v : Val} (h : v ∈ o.fs) : ∃ t, Rv yi oi v t := by
  obtain ⟨i, hi, rfl⟩ := List.mem_iff_getElem.mp h
  have hi2 : i < s.fs.length := by rw [← r.len]; exact hi
  exact ⟨s.fs[i], r.fs i _ _ (List.getElem?_eq_getElem hi) (List.getElem?_eq_getElem hi2)⟩
theorem Ro.few' {yi oi : List Nat} {o s : Ob} (r : Ro yi oi o s) : o.fs.length < 1000 := by rw [r.len]; exact r.few
section
variable {h : He} {yi oi : List Nat} {st : List Ob} {rs : List Rt}
theorem Corr.ry (c : Corr h yi oi st) {i : Nat} {o : Ob} (e : h.young[i]? = some o) : ∃ k s, yi[i]? = some k ∧ st[k]? = some s ∧ Ro yi oi o s := by
  have hi := (List.getElem?_eq_some_iff.mp e).1
  rw [← c.ly] at hi
  obtain ⟨s, a, b⟩ := c.y i o _ e (List.getElem?_eq_getElem hi)
  exact ⟨_, s, List.getElem?_eq_getElem hi, a, b⟩
theorem Corr.ro (c : Corr h yi oi st) {i : Nat} {o : Ob} (e : h.old[i]? = some o) : ∃ k s, oi[i]? = some k ∧ st[k]? = some s ∧ Ro yi oi o s := by
  have hi := (List.getElem?_eq_some_iff.mp e).1
  rw [← c.lo] at hi
  obtain ⟨s, a, b⟩ := c.o i o _ e (List.getElem?_eq_getElem hi)
  exact ⟨_, s, List.getElem?_eq_getElem hi, a, b⟩
theorem Good.sz (g : Good h yi oi st rs) : h.young.length + h.old.length ≤ st.length := by
  have q := nodup_lt st.length (yi ++ oi) g.nd fun x hx => by
    rcases List.mem_append.mp hx with z | z
    · obtain ⟨i, hi, rfl⟩ := List.mem_iff_getElem.mp z
      have hi2 : i < h.young.length := by rw [← g.c.ly]; exact hi
      obtain ⟨s, a, _⟩ := g.c.y i _ _ (List.getElem?_eq_getElem hi2) (List.getElem?_eq_getElem hi)
      exact (List.getElem?_eq_some_iff.mp a).1
    · obtain ⟨i, hi, rfl⟩ := List.mem_iff_getElem.mp z
      have hi2 : i < h.old.length := by rw [← g.c.lo]; exact hi
      obtain ⟨s, a, _⟩ := g.c.o i _ _ (List.getElem?_eq_getElem hi2) (List.getElem?_eq_getElem hi)
      exact (List.getElem?_eq_some_iff.mp a).1
  rw [List.length_append, g.c.ly, g.c.lo] at q
  exact q
theorem Good.wf (g : Good h yi oi st rs) (hs : st.length < 5000) : WfH h where
  oy := fun o ho => by
    obtain ⟨i, hi, rfl⟩ := List.mem_iff_getElem.mp ho
    obtain ⟨k, s, _, _, r⟩ := g.c.ry (List.getElem?_eq_getElem hi)
    exact ⟨fun v hv => by obtain ⟨t, q⟩ := r.each hv; have := q.yok; rw [g.c.ly] at this; exact this, r.few'⟩
  oo := fun o ho => by
    obtain ⟨i, hi, rfl⟩ := List.mem_iff_getElem.mp ho
    obtain ⟨k, s, _, _, r⟩ := g.c.ro (List.getElem?_eq_getElem hi)
    exact ⟨fun v hv => by obtain ⟨t, q⟩ := r.each hv; have := q.yok; rw [g.c.ly] at this; exact this, r.few'⟩
  rm := g.rm2
  sz := by have := g.sz; omega
/-! more ids -/
theorem idAt_y {x : List Nat} {a : Int} {k : Nat} (e : idAt yi oi a = some k) : idAt (yi ++ x) oi a = some k := by
  unfold idAt at e ⊢
  split
  · rename_i n; rw [if_pos n] at e; rw [List.getElem?_append_left (List.getElem?_eq_some_iff.mp e).1]; exact e
  · rename_i n; rw [if_neg n] at e; exact e
theorem idAt_o {x : List Nat} {a : Int} {k : Nat} (e : idAt yi oi a = some k) : idAt yi (oi ++ x) a = some k := by
  unfold idAt at e ⊢
  split
  · rename_i n; rw [if_pos n] at e; exact e
  · rename_i n; rw [if_neg n] at e; rw [List.getElem?_append_left (List.getElem?_eq_some_iff.mp e).1]; exact e
theorem Rv.y {x : List Nat} {v t : Val} (r : Rv yi oi v t) : Rv (yi ++ x) oi v t := by
  rcases r with ⟨a, b, c, e⟩ | r
  · exact .inl ⟨a, b, c, idAt_y e⟩
  · exact .inr r
theorem Rv.o {x : List Nat} {v t : Val} (r : Rv yi oi v t) : Rv yi (oi ++ x) v t := by
  rcases r with ⟨a, b, c, e⟩ | r
  · exact .inl ⟨a, b, c, idAt_o e⟩
  · exact .inr r
theorem Ro.y {x : List Nat} {o s : Ob} (r : Ro yi oi o s) : Ro (yi ++ x) oi o s := ⟨r.kind, r.word, r.len, fun i v t a b => (r.fs i v t a b).y, r.few⟩
theorem Ro.o {x : List Nat} {o s : Ob} (r : Ro yi oi o s) : Ro yi (oi ++ x) o s := ⟨r.kind, r.word, r.len, fun i v t a b => (r.fs i v t a b).o, r.few⟩
/-! ### make -/
theorem pick_rv {rs : List Rt} (g : ∀ r ∈ rs, Rv yi oi r.1 r.2) {x : Rt} (h : PickOk rs x) : Rv yi oi x.1 x.2 := by
  rcases h with h | ⟨n, rfl⟩
  · exact g x h
  · exact .inr ⟨rfl, rfl⟩
theorem Good.make (g : Good h yi oi st rs) {o s : Ob} (n : NewOk rs o s) :
    Good { h with young := h.young ++ [o] } (yi ++ [st.length]) oi (st ++ [s]) (rs ++ [(atV (-(h.young.length + 1)), (("no" : Str), (st.length : Int)))]) := by
  obtain ⟨ps, p1, p2, p3, p4⟩ := n.fs
  have rnew : Ro (yi ++ [st.length]) oi o s := by
    refine ⟨n.kind, n.word, by rw [p1, p2, List.length_map, List.length_map], fun i v t a b => ?_, by rw [p2, List.length_map]; omega⟩
    rw [p1, List.getElem?_map] at a
    rw [p2, List.getElem?_map] at b
    cases e : ps[i]? with
    | none => rw [e] at a; cases a
    | some x =>
      rw [e] at a b
      cases a
      cases b
      exact (pick_rv g.rt (p3 x (List.mem_of_getElem? e))).y
  have st_old : ∀ {k : Nat} {s' : Ob}, st[k]? = some s' → (st ++ [s])[k]? = some s' := fun e => by rw [List.getElem?_append_left (List.getElem?_eq_some_iff.mp e).1]; exact e
  refine ⟨⟨by simp [g.c.ly], g.c.lo, ?_, ?_⟩, ?_, ?_, g.rm1, g.rm2, ?_⟩
  · intro i o' k h1 h2
    by_cases hi : i < h.young.length
    · have h1 : (h.young ++ [o])[i]? = some o' := h1
      rw [List.getElem?_append_left hi] at h1
      rw [List.getElem?_append_left (by rw [g.c.ly]; exact hi)] at h2
      obtain ⟨s', a, b⟩ := g.c.y i o' k h1 h2
      exact ⟨s', st_old a, b.y⟩
    · have h1' := (List.getElem?_eq_some_iff.mp h1).1
      have h1'' : i < (h.young ++ [o]).length := h1'
      rw [List.length_append, List.length_singleton] at h1''
      have e : i = h.young.length := by omega
      subst e
      have h1 : (h.young ++ [o])[h.young.length]? = some o' := h1
      rw [List.getElem?_append_right (Nat.le_refl _), Nat.sub_self] at h1
      rw [← g.c.ly, List.getElem?_append_right (Nat.le_refl _), Nat.sub_self] at h2
      have e1 : o' = o := by simpa using h1.symm
      have e2 : k = st.length := by simpa using h2.symm
      subst e1 e2
      exact ⟨s, by rw [List.getElem?_append_right (Nat.le_refl _), Nat.sub_self]; rfl, rnew⟩
  · intro i o' k h1 h2
    obtain ⟨s', a, b⟩ := g.c.o i o' k h1 h2
    exact ⟨s', st_old a, b.y⟩
  · have hlt : ∀ x ∈ yi ++ oi, x < st.length := fun x hx => by
      rcases List.mem_append.mp hx with z | z
      · obtain ⟨i, hi, rfl⟩ := List.mem_iff_getElem.mp z
        have hi2 : i < h.young.length := by rw [← g.c.ly]; exact hi
        obtain ⟨s, a, _⟩ := g.c.y i _ _ (List.getElem?_eq_getElem hi2) (List.getElem?_eq_getElem hi)
        exact (List.getElem?_eq_some_iff.mp a).1
      · obtain ⟨i, hi, rfl⟩ := List.mem_iff_getElem.mp z
        have hi2 : i < h.old.length := by rw [← g.c.lo]; exact hi
        obtain ⟨s, a, _⟩ := g.c.o i _ _ (List.getElem?_eq_getElem hi2) (List.getElem?_eq_getElem hi)
        exact (List.getElem?_eq_some_iff.mp a).1
    have p : ((yi ++ [st.length]) ++ oi).Perm (st.length :: (yi ++ oi)) := by
      rw [List.append_assoc, List.singleton_append]
      exact List.perm_middle
    rw [p.nodup_iff, List.nodup_cons]
    exact ⟨fun z => Nat.lt_irrefl _ (hlt _ z), g.nd⟩
  · intro r hr'
    rcases List.mem_append.mp hr' with z | z
    · exact (g.rt r z).y
    · have z : r = (atV (-(h.young.length + 1)), (("no" : Str), (st.length : Int))) := by simpa using z
      subst z
      refine .inl ⟨rfl, rfl, by show (0 : Int) ≤ (st.length : Nat); omega, ?_⟩
      unfold idAt atV
      rw [if_pos (by show (-((h.young.length : Int) + 1)) < 0; omega)]
      show (yi ++ [st.length])[(-(-((h.young.length : Int) + 1)) - 1).toNat]? = some ((st.length : Int).toNat)
      rw [show (-(-((h.young.length : Int) + 1)) - 1).toNat = yi.length by rw [g.c.ly]; omega, List.getElem?_append_right (Nat.le_refl _), Nat.sub_self]
      simp
  · intro s' hs' k
    rcases List.mem_append.mp hs' with z | z
    · exact g.ref s' z k
    · have z : s' = s := by simpa using z
      subst z; exact n.rf k
end
end K57

namespace K57
open PySem L2 PySem.Spec PyProof.Rows DL
section
variable {h : He} {yi oi : List Nat} {st : List Ob} {rs : List Rt}
/-! ### store -/
theorem app_inj {yi oi : List Nat} (nd : (yi ++ oi).Nodup) {i j k : Nat} (a : yi[i]? = some k) (b : oi[j]? = some k) : False := by
  have := (List.nodup_append.mp nd).2.2 k (List.mem_of_getElem? a) k (List.mem_of_getElem? b)
  exact this rfl
theorem nd_inj {l : List Nat} (nd : l.Nodup) {i j k : Nat} (a : l[i]? = some k) (b : l[j]? = some k) : i = j :=
  (List.getElem?_inj (List.getElem?_eq_some_iff.mp a).1 nd).mp (a.trans b.symm)
theorem mem_remF {r : List Int} {a b : Int} : b ∈ remF r a ↔ b ∈ r ∨ b = a := by
  unfold remF
  split
  · rename_i m; constructor
    · exact .inl
    · rintro (z | z)
      · exact z
      · rw [z]; exact m
  · simp
theorem Good.store (g : Good h yi oi st rs) {v t : Val} (hm : (v, t) ∈ rs) (ht : t.1 = "no") {s : Ob} (hs : st[t.2.toNat]? = some s) (hk : s.kind = "ref") {cv ct : Val} (hc : Rv yi oi cv ct) {o : Ob} (ho : objAt h v.2 = some o) :
    Good (storeF h v.2 o cv) yi oi (st.set t.2.toNat ⟨"ref", .int 0, [ct]⟩) rs := by
  have hid : idAt yi oi v.2 = some t.2.toNat := by
    rcases g.rt _ hm with ⟨_, _, _, e⟩ | ⟨e, _⟩
    · exact e
    · have e : t.1 = "int" := e
      rw [ht] at e; exact absurd e (by decide +kernel)
  obtain ⟨o', s', e1, e2, ro⟩ := g.c.at hid
  rw [ho] at e1; cases e1
  rw [hs] at e2; cases e2
  obtain ⟨w, w1, w2⟩ := ro.word
  have hw := g.ref s (List.mem_of_getElem? hs) hk
  rw [w2] at hw
  cases hw
  have hkl := (List.getElem?_eq_some_iff.mp hs).1
  have new : Ro yi oi ⟨o.kind, o.word, [cv]⟩ ⟨"ref", .int 0, [ct]⟩ := by
    refine ⟨ro.kind.trans hk, ⟨0, w1, rfl⟩, rfl, fun i a b ha hb => ?_, by show 1 < 1000; decide⟩
    cases i with
    | zero => cases ha; cases hb; exact hc
    | succ i => cases ha
  have here : (st.set t.2.toNat (⟨"ref", .int 0, [ct]⟩ : Ob))[t.2.toNat]? = some ⟨"ref", .int 0, [ct]⟩ := by rw [List.getElem?_set_self hkl]
  have there : ∀ {k : Nat} {x : Ob}, k ≠ t.2.toNat → st[k]? = some x → (st.set t.2.toNat (⟨"ref", .int 0, [ct]⟩ : Ob))[k]? = some x := fun n e => by rw [List.getElem?_set_ne (Ne.symm n)]; exact e
  have hrf : ∀ s ∈ st.set t.2.toNat (⟨"ref", .int 0, [ct]⟩ : Ob), s.kind = "ref" → s.word = .int 0 := fun s hs k => by
    rcases List.mem_or_eq_of_mem_set hs with z | z
    · exact g.ref s z k
    · rw [z]
  unfold idAt at hid
  unfold storeF
  by_cases n : v.2 < 0
  · rw [if_pos n] at hid ⊢
    refine ⟨⟨by rw [g.c.ly]; simp, g.c.lo, fun i o' k h1 h2 => ?_, fun i o' k h1 h2 => ?_⟩, g.nd, g.rt, g.rm1, g.rm2, hrf⟩
    · by_cases e : i = (-v.2 - 1).toNat
      · subst e
        rw [hid] at h2
        cases h2
        have h1 : (h.young.set (-v.2 - 1).toNat ⟨o.kind, o.word, [cv]⟩)[(-v.2 - 1).toNat]? = some o' := h1
        rw [List.getElem?_set_self (by rw [← g.c.ly]; exact (List.getElem?_eq_some_iff.mp hid).1)] at h1
        cases h1
        exact ⟨_, here, new⟩
      · have h1 : (h.young.set (-v.2 - 1).toNat ⟨o.kind, o.word, [cv]⟩)[i]? = some o' := h1
        rw [List.getElem?_set_ne (Ne.symm e)] at h1
        obtain ⟨x, a, b⟩ := g.c.y i o' k h1 h2
        exact ⟨x, there (fun z => e (nd_inj (List.nodup_append.mp g.nd).1 (z ▸ h2) hid)) a, b⟩
    · obtain ⟨x, a, b⟩ := g.c.o i o' k h1 h2
      exact ⟨x, there (fun z => app_inj g.nd hid (z ▸ h2)) a, b⟩
  · rw [if_neg n] at hid ⊢
    have hil : v.2.toNat < h.old.length := by rw [← g.c.lo]; exact (List.getElem?_eq_some_iff.mp hid).1
    refine ⟨⟨g.c.ly, by rw [g.c.lo]; simp, fun i o' k h1 h2 => ?_, fun i o' k h1 h2 => ?_⟩, g.nd, g.rt, ?_, ?_, hrf⟩
    · obtain ⟨x, a, b⟩ := g.c.y i o' k h1 h2
      exact ⟨x, there (fun z => app_inj g.nd (z ▸ h2) hid) a, b⟩
    · by_cases e : i = v.2.toNat
      · subst e
        rw [hid] at h2
        cases h2
        have h1 : (h.old.set v.2.toNat ⟨o.kind, o.word, [cv]⟩)[v.2.toNat]? = some o' := h1
        rw [List.getElem?_set_self hil] at h1
        cases h1
        exact ⟨_, here, new⟩
      · have h1 : (h.old.set v.2.toNat ⟨o.kind, o.word, [cv]⟩)[i]? = some o' := h1
        rw [List.getElem?_set_ne (Ne.symm e)] at h1
        obtain ⟨x, a, b⟩ := g.c.o i o' k h1 h2
        exact ⟨x, there (fun z => e (nd_inj (List.nodup_append.mp g.nd).2.1 (z ▸ h2) hid)) a, b⟩
    · intro i o' h1 hy
      show (i : Int) ∈ (if isY cv = true then remF h.rem v.2 else h.rem)
      by_cases e : i = v.2.toNat
      · subst e
        have h1 : (h.old.set v.2.toNat ⟨o.kind, o.word, [cv]⟩)[v.2.toNat]? = some o' := h1
        rw [List.getElem?_set_self hil] at h1
        cases h1
        obtain ⟨u, hu, hy⟩ := hy
        have hu : u = cv := by simpa using hu
        subst hu
        rw [if_pos hy, mem_remF]
        exact .inr (by omega)
      · have h1 : (h.old.set v.2.toNat ⟨o.kind, o.word, [cv]⟩)[i]? = some o' := h1
        rw [List.getElem?_set_ne (Ne.symm e)] at h1
        have := g.rm1 i o' h1 hy
        split
        · rw [mem_remF]; exact .inl this
        · exact this
    · intro a ha
      show 0 ≤ a ∧ a < ((h.old.set v.2.toNat ⟨o.kind, o.word, [cv]⟩).length : Int)
      rw [List.length_set]
      have ha : a ∈ (if isY cv = true then remF h.rem v.2 else h.rem) := ha
      split at ha
      · rw [mem_remF] at ha
        rcases ha with z | z
        · exact g.rm2 a z
        · rw [z]; omega
      · exact g.rm2 a ha
/-! ### minor -/
structure MR (yg : List Ob) (yi : List Nat) (n0 : Nat) (oi0 : List Nat) (st : List Ob) (s : Mv) (oi : List Nat) : Prop where
  m : MInv yg n0 s
  e : oi = oi0 ++ s.pl.map fun q => yi.getD (-q.1 - 1).toNat 0
  l0 : oi0.length = n0
  ly : yi.length = yg.length
  pos : ∀ (j : Nat) q, s.pl[j]? = some q → q.2 = n0 + j
  y : ∀ (i : Nat) o k, yg[i]? = some o → yi[i]? = some k → ∃ x, st[k]? = some x ∧ Ro yi oi o x
  o : ∀ (i : Nat) o k, s.old[i]? = some o → oi[i]? = some k → ∃ x, st[k]? = some x ∧ Ro yi oi o x
theorem plLook_get {pl : Pl} {a : Int} {n : Nat} (h : plLook pl a = some n) : ∃ (j : Nat) (q : Int × Nat), pl[j]? = some q ∧ q.1 = a ∧ q.2 = n := by
  unfold plLook at h
  cases e : pl.find? (fun q => decide (q.1 = a)) with
  | none => rw [e] at h; cases h
  | some q =>
    rw [e] at h
    obtain ⟨j, hj⟩ := List.mem_iff_getElem?.mp (List.mem_of_find?_eq_some e)
    exact ⟨j, q, hj, by simpa using List.find?_some e, Option.some.inj h⟩
theorem MR.lo {yg : List Ob} {n0 : Nat} {oi0 : List Nat} {s : Mv} (r : MR yg yi n0 oi0 st s oi) : oi.length = s.old.length := by
  rw [r.e, List.length_append, List.length_map, r.l0, r.m.len]
theorem move_rel {yg : List Ob} {n0 : Nat} {oi0 : List Nat} {s : Mv} (r : MR yg yi n0 oi0 st s oi) {v t : Val} (hv : Rv yi oi v t) :
    ∃ x, MR yg yi n0 oi0 st (moveF yg s v).2 (oi ++ x) ∧ Rv yi (oi ++ x) (moveF yg s v).1 t ∧ isY (moveF yg s v).1 = false := by
  have hyok : YOk yg.length v := by rw [← r.ly]; exact hv.yok
  have hinv := moveF_inv r.m hyok
  by_cases hy : isY v = true
  · obtain ⟨h1, h2⟩ := isY_iff.mp hy
    have hb := hyok hy
    obtain ⟨t1, t2, hid⟩ : t.1 = "no" ∧ 0 ≤ t.2 ∧ yi[(-v.2 - 1).toNat]? = some t.2.toNat := by
      rcases hv with ⟨a, _, c, e⟩ | ⟨e1, e2⟩
      · unfold idAt at e; rw [if_pos h2] at e; exact ⟨a, c, e⟩
      · rw [← e2, h1] at e1; exact absurd e1 (by decide +kernel)
    cases e : plLook s.pl v.2 with
    | some n =>
      have em : moveF yg s v = (atV (n : Int), s) := by unfold moveF; rw [if_pos hy, e]; rfl
      rw [em] at hinv ⊢
      refine ⟨[], by rw [List.append_nil]; exact r, ?_, hinv.2⟩
      rw [List.append_nil]
      obtain ⟨j, q, hj, q1, q2⟩ := plLook_get e
      have hp := r.pos j q hj
      refine .inl ⟨t1, rfl, t2, ?_⟩
      unfold idAt atV
      rw [if_neg (by show ¬ ((n : Int) < 0); omega)]
      show oi[((n : Int)).toNat]? = some t.2.toNat
      rw [r.e, show ((n : Int)).toNat = oi0.length + j by rw [r.l0]; omega, List.getElem?_append_right (by omega), show oi0.length + j - oi0.length = j by omega, List.getElem?_map, hj]
      show some (yi.getD (-q.1 - 1).toNat 0) = _
      rw [q1, List.getD_eq_getElem?_getD, hid]
      rfl
    | none =>
      have hi : (-v.2 - 1).toNat < yg.length := by omega
      have em : moveF yg s v = (atV (s.old.length : Int), ⟨s.old ++ [yg[(-v.2 - 1).toNat]], s.pl ++ [(v.2, s.old.length)]⟩) := by
        unfold moveF; rw [if_pos hy, e]; simp only [List.getElem?_eq_getElem hi]; rfl
      rw [em] at hinv ⊢
      refine ⟨[t.2.toNat], ⟨hinv.1, ?_, r.l0, r.ly, ?_, ?_, ?_⟩, ?_, hinv.2⟩
      · show oi ++ [t.2.toNat] = oi0 ++ (s.pl ++ [(v.2, s.old.length)]).map fun q => yi.getD (-q.1 - 1).toNat 0
        rw [List.map_append, ← List.append_assoc, ← r.e]
        show _ = oi ++ [yi.getD (-v.2 - 1).toNat 0]
        rw [List.getD_eq_getElem?_getD, hid]
        rfl
      · intro j q hj
        have hj : (s.pl ++ [(v.2, s.old.length)])[j]? = some q := hj
        by_cases c : j < s.pl.length
        · rw [List.getElem?_append_left c] at hj; exact r.pos j q hj
        · have hlt := (List.getElem?_eq_some_iff.mp hj).1
          rw [List.length_append, List.length_singleton] at hlt
          have ej : j = s.pl.length := by omega
          subst ej
          rw [List.getElem?_append_right (Nat.le_refl _), Nat.sub_self] at hj
          have : q = (v.2, s.old.length) := by simpa using hj.symm
          rw [this]; exact r.m.len
      · intro i o k a b
        obtain ⟨x, c, d⟩ := r.y i o k a b
        exact ⟨x, c, d.o⟩
      · intro i o k a b
        have a : (s.old ++ [yg[(-v.2 - 1).toNat]])[i]? = some o := a
        by_cases c : i < s.old.length
        · rw [List.getElem?_append_left c] at a
          rw [List.getElem?_append_left (by rw [r.lo]; exact c)] at b
          obtain ⟨x, c, d⟩ := r.o i o k a b
          exact ⟨x, c, d.o⟩
        · have hlt := (List.getElem?_eq_some_iff.mp a).1
          rw [List.length_append, List.length_singleton] at hlt
          have ei : i = s.old.length := by omega
          subst ei
          rw [List.getElem?_append_right (Nat.le_refl _), Nat.sub_self] at a
          rw [← r.lo, List.getElem?_append_right (Nat.le_refl _), Nat.sub_self] at b
          have ea : o = yg[(-v.2 - 1).toNat] := by simpa using a.symm
          have eb : k = t.2.toNat := by simpa using b.symm
          rw [ea, eb]
          obtain ⟨x, c, d⟩ := r.y _ _ _ (List.getElem?_eq_getElem hi) hid
          exact ⟨x, c, d.o⟩
      · refine .inl ⟨t1, rfl, t2, ?_⟩
        unfold idAt atV
        rw [if_neg (by show ¬ ((s.old.length : Int) < 0); omega)]
        show (oi ++ [t.2.toNat])[((s.old.length : Int)).toNat]? = some t.2.toNat
        rw [show ((s.old.length : Int)).toNat = oi.length by rw [r.lo]; omega, List.getElem?_append_right (Nat.le_refl _), Nat.sub_self]
        rfl
  · have em : moveF yg s v = (v, s) := by unfold moveF; rw [if_neg hy]
    rw [em] at hinv ⊢
    exact ⟨[], by rw [List.append_nil]; exact r, by rw [List.append_nil]; exact hv, hinv.2⟩
theorem moves_rel {yg : List Ob} {n0 : Nat} {oi0 : List Nat} : ∀ (ps : List Rt) (s : Mv) (oi : List Nat), MR yg yi n0 oi0 st s oi → (∀ p ∈ ps, Rv yi oi p.1 p.2) →
    ∃ x, MR yg yi n0 oi0 st (movesF yg s (ps.map (·.1))).2 (oi ++ x) ∧ ∀ (i : Nat) v' p, (movesF yg s (ps.map (·.1))).1[i]? = some v' → ps[i]? = some p → Rv yi (oi ++ x) v' p.2 ∧ isY v' = false
  | [], s, oi, r, _ => ⟨[], by rw [List.append_nil]; exact r, fun i v' p a b => by simp at b⟩
  | p :: ps, s, oi, r, hp => by
    obtain ⟨x1, r1, v1, y1⟩ := move_rel r (hp p List.mem_cons_self)
    obtain ⟨x2, r2, g2⟩ := moves_rel ps _ _ r1 fun q hq => (hp q (List.mem_cons_of_mem _ hq)).o
    refine ⟨x1 ++ x2, by rw [← List.append_assoc]; exact r2, fun i v' q a b => ?_⟩
    rw [← List.append_assoc]
    cases i with
    | zero =>
      have a : some (moveF yg s p.1).1 = some v' := a
      have b : some p = some q := b
      cases a; cases b
      exact ⟨v1.o, y1⟩
    | succ i => exact g2 i v' q a b
end
end K57

namespace K57
open PySem L2 PySem.Spec PyProof.Rows DL
section
variable {h : He} {yi oi : List Nat} {st : List Ob} {rs : List Rt}
def CleanO (o : Ob) : Prop := ∀ v ∈ o.fs, isY v = false
theorem adj_rel {yg : List Ob} {n0 : Nat} {oi0 : List Nat} {s : Mv} (r : MR yg yi n0 oi0 st s oi) {i : Nat} (hi : i < s.old.length) :
    ∃ x, MR yg yi n0 oi0 st (adjF yg s i) (oi ++ x) ∧ (∀ o, (adjF yg s i).old[i]? = some o → CleanO o) ∧ ∀ j, j ≠ i → j < s.old.length → (adjF yg s i).old[j]? = s.old[j]? := by
  have hs : s.old[i]? = some s.old[i] := List.getElem?_eq_getElem hi
  have hoi : i < oi.length := by rw [r.lo]; exact hi
  obtain ⟨w, hw, ro⟩ := r.o i _ _ hs (List.getElem?_eq_getElem hoi)
  have hz : (s.old[i].fs.zip w.fs).map (·.1) = s.old[i].fs := by
    have := List.map_fst_zip (l₁ := s.old[i].fs) (l₂ := w.fs) (Nat.le_of_eq ro.len)
    exact this
  have hp : ∀ p ∈ s.old[i].fs.zip w.fs, Rv yi oi p.1 p.2 := fun p hp => by
    obtain ⟨j, hj⟩ := List.mem_iff_getElem?.mp hp
    rw [List.getElem?_zip_eq_some] at hj
    exact ro.fs j _ _ hj.1 hj.2
  obtain ⟨x, r2, g2⟩ := moves_rel (s.old[i].fs.zip w.fs) s oi r hp
  rw [hz] at r2 g2
  have ea : adjF yg s i = ⟨(movesF yg s s.old[i].fs).2.old.set i ⟨s.old[i].kind, s.old[i].word, (movesF yg s s.old[i].fs).1⟩, (movesF yg s s.old[i].fs).2.pl⟩ := by unfold adjF; rw [hs]
  have hinv := adjF_inv (i := i) r.m
  obtain ⟨tl, htl⟩ := movesF_old (yg := yg) s.old[i].fs s
  have hlen : i < (movesF yg s s.old[i].fs).2.old.length := by rw [htl, List.length_append]; omega
  have hfl := movesF_len yg s.old[i].fs s
  have pair : ∀ (j : Nat) v, (movesF yg s s.old[i].fs).1[j]? = some v → ∃ p, (s.old[i].fs.zip w.fs)[j]? = some p ∧ w.fs[j]? = some p.2 := fun j v e => by
    have h1 := (List.getElem?_eq_some_iff.mp e).1
    rw [hfl] at h1
    have h2 : j < w.fs.length := by rw [← ro.len]; exact h1
    refine ⟨(s.old[i].fs[j], w.fs[j]), ?_, List.getElem?_eq_getElem h2⟩
    rw [List.getElem?_zip_eq_some]
    exact ⟨List.getElem?_eq_getElem h1, List.getElem?_eq_getElem h2⟩
  have rnew : Ro yi (oi ++ x) ⟨s.old[i].kind, s.old[i].word, (movesF yg s s.old[i].fs).1⟩ w := by
    refine ⟨ro.kind, ro.word, by rw [← ro.len]; exact hfl, fun j v t a b => ?_, ro.few⟩
    obtain ⟨p, p1, p2⟩ := pair j v a
    rw [b] at p2
    cases p2
    exact (g2 j v p a p1).1
  have cl : CleanO ⟨s.old[i].kind, s.old[i].word, (movesF yg s s.old[i].fs).1⟩ := fun v hv => by
    obtain ⟨j, hj⟩ := List.mem_iff_getElem?.mp hv
    obtain ⟨p, p1, _⟩ := pair j v hj
    exact (g2 j v p hj p1).2
  rw [ea] at hinv ⊢
  refine ⟨x, ⟨hinv.1, r2.e, r.l0, r.ly, r2.pos, fun j o k a b => r2.y j o k a b, fun j o k a b => ?_⟩, fun o ho => ?_, fun j hj hjl => ?_⟩
  · have a : ((movesF yg s s.old[i].fs).2.old.set i ⟨s.old[i].kind, s.old[i].word, (movesF yg s s.old[i].fs).1⟩)[j]? = some o := a
    by_cases e : j = i
    · subst e
      rw [List.getElem?_set_self hlen] at a
      cases a
      rw [List.getElem?_append_left hoi] at b
      rw [List.getElem?_eq_getElem hoi] at b
      cases b
      exact ⟨w, hw, rnew⟩
    · rw [List.getElem?_set_ne (Ne.symm e)] at a
      exact r2.o j o k a b
  · have ho : ((movesF yg s s.old[i].fs).2.old.set i ⟨s.old[i].kind, s.old[i].word, (movesF yg s s.old[i].fs).1⟩)[i]? = some o := ho
    rw [List.getElem?_set_self hlen] at ho
    cases ho
    exact cl
  · show ((movesF yg s s.old[i].fs).2.old.set i ⟨s.old[i].kind, s.old[i].word, (movesF yg s s.old[i].fs).1⟩)[j]? = _
    rw [List.getElem?_set_ne (Ne.symm hj), htl, List.getElem?_append_left hjl]
/-- all but those in D are clean -/
def CleanBut (s : Mv) (D : Nat → Prop) : Prop := ∀ (j : Nat) o, s.old[j]? = some o → ¬ D j → CleanO o
theorem adj_clean {yg : List Ob} {s : Mv} {i : Nat} {D : Nat → Prop} (hi : i < s.old.length) (hc : CleanBut s D) (hD : ∀ j, s.old.length ≤ j → D j)
    (c1 : ∀ o, (adjF yg s i).old[i]? = some o → CleanO o) (c2 : ∀ j, j ≠ i → j < s.old.length → (adjF yg s i).old[j]? = s.old[j]?) : CleanBut (adjF yg s i) fun j => D j ∧ j ≠ i := by
  intro j o ho hn
  by_cases e : j = i
  · subst e; exact c1 o ho
  · have nD : ¬ D j := fun z => hn ⟨z, e⟩
    have hl : j < s.old.length := by
      by_cases c : j < s.old.length
      · exact c
      · exact absurd (hD j (by omega)) nD
    rw [c2 j e hl] at ho
    exact hc j o ho nD
theorem adjs_rel {yg : List Ob} {n0 : Nat} {oi0 : List Nat} : ∀ (is : List Int) (s : Mv) (oi : List Nat) (D : Nat → Prop), MR yg yi n0 oi0 st s oi → (∀ a ∈ is, 0 ≤ a ∧ a < (n0 : Int)) → CleanBut s (fun j => (j : Int) ∈ is ∨ D j) → (∀ j, n0 ≤ j → D j) →
    ∃ x, MR yg yi n0 oi0 st (adjsF yg s is) (oi ++ x) ∧ CleanBut (adjsF yg s is) D
  | [], s, oi, D, r, _, hc, hD => ⟨[], by rw [List.append_nil]; exact r, fun j o ho hn => hc j o ho fun z => z.elim (fun z => by simp at z) hn⟩
  | a :: is, s, oi, D, r, hr, hc, hD => by
    have ha := hr a List.mem_cons_self
    have hl := r.m.len
    have hi : a.toNat < s.old.length := by omega
    obtain ⟨x1, r1, c1, c2⟩ := adj_rel r hi
    have hc1 := adj_clean hi hc (fun j hj => .inr (hD j (by omega))) c1 c2
    have hc2 : CleanBut (adjF yg s a.toNat) (fun j => (j : Int) ∈ is ∨ D j) := fun j o ho hn => hc1 j o ho fun z => by
      rcases z with ⟨z | z, ne⟩
      · rcases List.mem_cons.mp z with z | z
        · exact ne (by omega)
        · exact hn (.inl z)
      · exact hn (.inr z)
    obtain ⟨x2, r2, c3⟩ := adjs_rel is _ _ D r1 (fun b hb => hr b (List.mem_cons_of_mem _ hb)) hc2 hD
    exact ⟨x1 ++ x2, by rw [← List.append_assoc]; exact r2, c3⟩
theorem scan_rel {yg : List Ob} {n0 : Nat} {oi0 : List Nat} : ∀ (f : Nat) (s : Mv) (oi : List Nat) (k : Nat), MR yg yi n0 oi0 st s oi → CleanBut s (fun j => k ≤ j) → n0 + yg.length < f + k →
    ∃ x, MR yg yi n0 oi0 st (scanF yg f s k) (oi ++ x) ∧ CleanBut (scanF yg f s k) fun _ => False
  | 0, s, oi, k, r, hc, hk => ⟨[], by rw [List.append_nil]; exact r, fun j o ho _ => hc j o ho fun z => by
      have h1 : j < s.old.length := (List.getElem?_eq_some_iff.mp ho).1
      have h2 := r.m.len
      have h3 := r.m.bnd
      omega⟩
  | f + 1, s, oi, k, r, hc, hk => by
    by_cases hlt : k < s.old.length
    · obtain ⟨x1, r1, c1, c2⟩ := adj_rel r hlt
      have hc1 := adj_clean hlt hc (fun j hj => by omega) c1 c2
      have hc2 : CleanBut (adjF yg s k) (fun j => k + 1 ≤ j) := fun j o ho hn => hc1 j o ho fun z => hn (by have := z.1; have := z.2; omega)
      obtain ⟨x2, r2, c3⟩ := scan_rel f _ _ (k + 1) r1 hc2 (by omega)
      refine ⟨x1 ++ x2, ?_, ?_⟩
      · rw [← List.append_assoc]; unfold scanF; rw [if_pos hlt]; exact r2
      · unfold scanF; rw [if_pos hlt]; exact c3
    · refine ⟨[], ?_, ?_⟩
      · rw [List.append_nil]; unfold scanF; rw [if_neg hlt]; exact r
      · unfold scanF; rw [if_neg hlt]
        exact fun j o ho _ => hc j o ho fun z => by have h1 := (List.getElem?_eq_some_iff.mp ho).1; omega
theorem Rv.old {v t : Val} (r : Rv yi oi v t) (hy : isY v = false) : Rv [] oi v t := by
  rcases r with ⟨a, b, c, e⟩ | r
  · refine .inl ⟨a, b, c, ?_⟩
    unfold idAt at e ⊢
    have n : ¬ v.2 < 0 := fun z => by rw [isY_iff.mpr ⟨b, z⟩] at hy; cases hy
    rw [if_neg n] at e ⊢
    exact e
  · exact .inr r
theorem Good.minor (g : Good h yi oi st rs) : ∃ oi', Good (minorF h (rs.map (·.1))).2 [] oi' st ((minorF h (rs.map (·.1))).1.zip (rs.map (·.2))) := by
  have hsz := g.sz
  have hMI : MInv h.young h.old.length ⟨h.old, []⟩ := by
    refine ⟨by simp, by simp, by simp, fun o ho => ?_, fun o ho => ?_⟩
    · obtain ⟨i, hi, rfl⟩ := List.mem_iff_getElem.mp ho
      obtain ⟨k, s, _, _, r⟩ := g.c.ro (List.getElem?_eq_getElem hi)
      exact ⟨fun v hv => by obtain ⟨t, q⟩ := r.each hv; have := q.yok; rw [g.c.ly] at this; exact this, r.few'⟩
    · obtain ⟨i, hi, rfl⟩ := List.mem_iff_getElem.mp ho
      obtain ⟨k, s, _, _, r⟩ := g.c.ry (List.getElem?_eq_getElem hi)
      exact ⟨fun v hv => by obtain ⟨t, q⟩ := r.each hv; have := q.yok; rw [g.c.ly] at this; exact this, r.few'⟩
  have r0 : MR h.young yi h.old.length oi st ⟨h.old, []⟩ oi := ⟨hMI, by simp, g.c.lo, g.c.ly, fun j q e => by simp at e, g.c.y, g.c.o⟩
  obtain ⟨x1, r1, v1⟩ := moves_rel rs _ _ r0 g.rt
  have hc1 : CleanBut (mvA h (rs.map (·.1))).2 (fun j => (j : Int) ∈ sortI h.rem ∨ h.old.length ≤ j) := fun j o ho hn => by
    obtain ⟨t, ht⟩ := movesF_old (yg := h.young) (rs.map (·.1)) ⟨h.old, []⟩
    have ho : (movesF h.young ⟨h.old, []⟩ (rs.map (·.1))).2.old[j]? = some o := ho
    have hj : j < h.old.length := by
      by_cases c : j < h.old.length
      · exact c
      · exact absurd (.inr (by omega)) hn
    rw [ht, List.getElem?_append_left hj] at ho
    intro v hv
    cases e : isY v with
    | false => rfl
    | true => exact absurd (.inl (sortI_mem.mpr (g.rm1 j o ho ⟨v, hv, e⟩))) hn
  obtain ⟨x2, r2, c2⟩ := adjs_rel (sortI h.rem) _ _ _ r1 (fun a ha => g.rm2 a (sortI_mem.mp ha)) hc1 (fun j hj => hj)
  obtain ⟨x3, r3, c3⟩ := scan_rel (h.young.length + 1) _ _ h.old.length r2 c2 (by omega)
  refine ⟨((oi ++ x1) ++ x2) ++ x3, ⟨rfl, ?_, fun i o k e => by have e : ([] : List Ob)[i]? = some o := e; simp at e, ?_⟩, ?_, ?_, ?_, ?_, g.ref⟩
  · exact r3.lo
  · intro i o k a b
    obtain ⟨w, c, d⟩ := r3.o i o k a b
    refine ⟨w, c, d.kind, d.word, d.len, fun j v t p q => ?_, d.few⟩
    exact (d.fs j v t p q).old (c3 i o a id v (List.mem_of_getElem? p))
  · rw [List.nil_append, r3.e, List.nodup_append]
    have ndy := (List.nodup_append.mp g.nd).1
    have ndo := (List.nodup_append.mp g.nd).2.1
    have hrange : ∀ q ∈ (scanF h.young (h.young.length + 1) (adjsF h.young (movesF h.young ⟨h.old, []⟩ (rs.map (·.1))).2 (sortI h.rem)) h.old.length).pl, yi[(-q.1 - 1).toNat]? = some (yi.getD (-q.1 - 1).toNat 0) := fun q hq => by
      have hr := r3.m.rng q hq
      have hi : (-q.1 - 1).toNat < yi.length := by rw [r3.ly]; omega
      rw [List.getD_eq_getElem?_getD, List.getElem?_eq_getElem hi]
      rfl
    refine ⟨ndo, ?_, ?_⟩
    · rw [List.nodup_iff_pairwise_ne, List.pairwise_map]
      have nd := r3.m.nd
      rw [List.nodup_iff_pairwise_ne, List.pairwise_map] at nd
      refine List.Pairwise.imp_of_mem ?_ nd
      intro a b ha hb hne e
      have h1 := hrange a ha
      have h2 := hrange b hb
      rw [e] at h1
      have h3 := nd_inj ndy h1 h2
      have h4 := r3.m.rng a ha
      have h5 := r3.m.rng b hb
      exact hne (by omega)
    · intro a ha b hb e
      obtain ⟨q, hq, rfl⟩ := List.mem_map.mp hb
      have h1 := hrange q hq
      rw [← e] at h1
      obtain ⟨j, hj⟩ := List.mem_iff_getElem?.mp ha
      exact app_inj g.nd h1 hj
  · intro p hp
    obtain ⟨j, hj⟩ := List.mem_iff_getElem?.mp hp
    rw [List.getElem?_zip_eq_some] at hj
    have h1 := hj.1
    have h2 := hj.2
    rw [List.getElem?_map] at h2
    cases e : rs[j]? with
    | none => rw [e] at h2; cases h2
    | some q =>
      rw [e] at h2
      have h3 := v1 j p.1 q h1 e
      have h4 : q.2 = p.2 := Option.some.inj h2
      rw [← h4]
      exact ((h3.1.o.o).old h3.2)
  · intro i o ho hy
    obtain ⟨v, hv, e⟩ := hy
    have := c3 i o ho id v hv
    rw [this] at e; cases e
  · intro a ha
    have ha : a ∈ ([] : List Int) := ha
    simp at ha
end
end K57

namespace K57
open PySem L2 PySem.Spec PyProof.Rows DL
section
variable {h : He} {yi oi : List Nat} {st : List Ob} {rs : List Rt}
theorem Good.wfR {old : List Ob} (g : Good ⟨[], old, []⟩ [] oi st rs) (hs : st.length < 5000) : WfR old where
  ok := fun o ho => by
    obtain ⟨i, hi, rfl⟩ := List.mem_iff_getElem.mp ho
    obtain ⟨k, s, _, _, r⟩ := g.c.ro (List.getElem?_eq_getElem hi)
    refine ⟨fun v hv => ?_, r.few'⟩
    obtain ⟨t, q⟩ := r.each hv
    have q2 := q.vok
    rw [g.c.lo] at q2
    exact q2
  sz := by have := g.sz; simp at this; omega
theorem Good.vok {old : List Ob} (g : Good ⟨[], old, []⟩ [] oi st rs) : ∀ v ∈ rs.map (·.1), VOk old.length v := fun v hv => by
  obtain ⟨r, hr, rfl⟩ := List.mem_map.mp hv
  have := (g.rt r hr).vok
  rw [g.c.lo] at this
  exact this
theorem Good.major {old : List Ob} (g : Good ⟨[], old, []⟩ [] oi st rs) {R : List Int} (hR : ReachR old [] (rs.map (·.1)) R) (nd : R.Nodup) (rg : ∀ a ∈ R, 0 ≤ a ∧ a < (old.length : Int)) :
    ∃ oi', Good ⟨[], keptO old R, []⟩ [] oi' st (rs.map fun r => (placedF (plK (sortI R)) r.1, r.2)) := by
  have hlo : oi.length = old.length := g.c.lo
  have nds : (sortI R).Nodup := (sortI_perm R).nodup_iff.mpr nd
  have ndo : oi.Nodup := by have := g.nd; rw [List.nil_append] at this; exact this
  have hcl := reach_closed hR (fun a ha => by simp at ha)
  have getoi : ∀ a ∈ R, oi[a.toNat]? = some (oi.getD a.toNat 0) := fun a ha => by
    have h1 := rg a ha
    have hi : a.toNat < oi.length := by omega
    rw [List.getD_eq_getElem?_getD, List.getElem?_eq_getElem hi]
    rfl
  have rv : ∀ {v t : Val}, Rv [] oi v t → (v.1 = "at" → v.2 ∈ R) → Rv [] ((sortI R).map fun a => oi.getD a.toNat 0) (placedF (plK (sortI R)) v) t := by
    intro v t r hin
    rcases r with ⟨a, b, c, e⟩ | ⟨e1, e2⟩
    · have hm := hin b
      obtain ⟨n, h1, h2⟩ := plK_look (sortI_mem.mpr hm)
      have hp : placedF (plK (sortI R)) v = atV (n : Int) := by unfold placedF; rw [if_pos b, h1]; rfl
      rw [hp]
      refine .inl ⟨a, rfl, c, ?_⟩
      have hr := rg _ hm
      unfold idAt at e ⊢
      rw [if_neg (by omega)] at e
      rw [if_neg (by show ¬ ((n : Int) < 0); omega)]
      show ((sortI R).map fun a => oi.getD a.toNat 0)[((n : Int)).toNat]? = _
      rw [Int.toNat_natCast, List.getElem?_map, h2]
      have h3 := getoi _ hm
      rw [e] at h3
      exact h3.symm
    · have hp : placedF (plK (sortI R)) v = v := by
        unfold placedF
        rw [if_neg (by rw [e2, e1]; decide +kernel)]
      rw [hp]
      exact .inr ⟨e1, e2⟩
  refine ⟨(sortI R).map fun a => oi.getD a.toNat 0, ⟨rfl, by unfold keptO; simp, fun i o k e => by have e : ([] : List Ob)[i]? = some o := e; simp at e, ?_⟩, ?_, ?_, ?_, ?_, g.ref⟩
  · intro i o k a b
    have a : ((sortI R).map (newO old (plK (sortI R))))[i]? = some o := a
    rw [List.getElem?_map] at a b
    cases e : (sortI R)[i]? with
    | none => rw [e] at a; cases a
    | some ad =>
      rw [e] at a b
      have hm := sortI_mem.mp (List.mem_of_getElem? e)
      have hr := rg ad hm
      have hi : ad.toNat < old.length := by omega
      have ho : old[ad.toNat]? = some old[ad.toNat] := List.getElem?_eq_getElem hi
      have ea : o = ⟨old[ad.toNat].kind, old[ad.toNat].word, old[ad.toNat].fs.map (placedF (plK (sortI R)))⟩ := by
        have := Option.some.inj a
        rw [← this]
        unfold newO
        rw [ho]
      have eb : k = oi.getD ad.toNat 0 := (Option.some.inj b).symm
      have hk := getoi ad hm
      rw [← eb] at hk
      obtain ⟨w, c, d⟩ := g.c.o ad.toNat _ k ho hk
      subst ea
      refine ⟨w, c, d.kind, d.word, by rw [← d.len]; exact List.length_map _, fun j v t p q => ?_, d.few⟩
      have p : (old[ad.toNat].fs.map (placedF (plK (sortI R))))[j]? = some v := p
      rw [List.getElem?_map] at p
      cases e3 : old[ad.toNat].fs[j]? with
      | none => rw [e3] at p; cases p
      | some u =>
        rw [e3] at p
        cases p
        exact rv (d.fs j u t e3 q) (hcl ad hm _ ho u (List.mem_of_getElem? e3))
  · rw [List.nil_append, List.nodup_iff_pairwise_ne, List.pairwise_map]
    rw [List.nodup_iff_pairwise_ne] at nds
    refine List.Pairwise.imp_of_mem ?_ nds
    intro a b ha hb hne e
    have ha' := sortI_mem.mp ha
    have hb' := sortI_mem.mp hb
    have h1 := getoi a ha'
    have h2 := getoi b hb'
    rw [e] at h1
    have h3 := nd_inj ndo h1 h2
    have h4 := rg a ha'
    have h5 := rg b hb'
    exact hne (by omega)
  · intro p hp
    obtain ⟨r, hr, rfl⟩ := List.mem_map.mp hp
    exact rv (g.rt r hr) (reach_left hR r.1 (List.mem_map.mpr ⟨r, hr, rfl⟩))
  · intro i o ho hy
    obtain ⟨v, hv, e⟩ := hy
    have ho : ((sortI R).map (newO old (plK (sortI R))))[i]? = some o := ho
    rw [List.getElem?_map] at ho
    cases e2 : (sortI R)[i]? with
    | none => rw [e2] at ho; cases ho
    | some ad =>
      rw [e2] at ho
      have hm := sortI_mem.mp (List.mem_of_getElem? e2)
      have ea : newO old (plK (sortI R)) ad = o := Option.some.inj ho
      have hr := rg ad hm
      have hi : ad.toNat < old.length := by omega
      have hoo : old[ad.toNat]? = some old[ad.toNat] := List.getElem?_eq_getElem hi
      unfold newO at ea
      rw [hoo] at ea
      subst ea
      have hv : v ∈ old[ad.toNat].fs.map (placedF (plK (sortI R))) := hv
      obtain ⟨u, hu, rfl⟩ := List.mem_map.mp hv
      have : isY (placedF (plK (sortI R)) u) = false := by
        unfold placedF
        split
        · exact isY_at
        · rename_i c
          unfold isY
          rw [decide_eq_false c]
          rfl
      rw [this] at e; cases e
  · intro a ha
    have ha : a ∈ ([] : List Int) := ha
    simp at ha
end
end K57

namespace K57
open PySem L2 PySem.Spec PyProof.Rows DL
theorem set_nodup {α : Type} {x : α} : ∀ {l : List α} {i : Nat}, l.Nodup → x ∉ l → (l.set i x).Nodup
  | [], i, h, _ => by simp
  | a :: t, 0, h, n => by
    rw [List.nodup_cons] at h
    show (x :: t).Nodup
    rw [List.nodup_cons]
    exact ⟨fun z => n (List.mem_cons_of_mem _ z), h.2⟩
  | a :: t, i + 1, h, n => by
    rw [List.nodup_cons] at h
    show (a :: t.set i x).Nodup
    rw [List.nodup_cons]
    refine ⟨fun z => ?_, set_nodup h.2 fun z => n (List.mem_cons_of_mem _ z)⟩
    rcases List.mem_or_eq_of_mem_set z with z | z
    · exact h.1 z
    · exact n (by rw [← z]; exact List.mem_cons_self)
def o7 : Ob := ⟨"ref", .int 0, [((("int" : Str)), 7)]⟩
structure LI (C1 dl sl p p2 yl2 ol2 rd2 : Addr) (room : Int) (i : Nat) (S : Sto) (rl yl ol rd : Addr) (h : He) (yi oi : List Nat) (st : List Ob) (rs : List Rt) : Prop where
  H : HAt C1 S p yl ol rd room h
  H2 : HAt C1 S p2 yl2 ol2 rd2 2 ⟨[o7], [], []⟩
  hs : S sl = some (.list (st.map encO))
  hr : S rl = some (.list (rs.map encRt))
  d : DrawAt S dl
  g : Good h yi oi st rs
  ful : (h.young.length : Int) ≤ room
  n1 : st.length ≤ i
  n2 : rs.length ≤ 6
  n3 : h.rem.length ≤ i
  nd : [dl, sl, rl, p, yl, ol, rd, p2, yl2, ol2, rd2].Nodup
def LIx (C1 : Addr) (ns : List Int) (dl sl p p2 yl2 ol2 rd2 : Addr) (room : Int) (i : Nat) (ρ : Rho) (S : Sto) : Prop :=
  ∃ rl yl ol rd h yi oi st rs v9 v10 v11 v12 v13 v14 v15 v16, ρ = [some (.lit (ns.map D.int)), some (.ref dl), some (.int room), some (.ref p), some (.ref p2), some (encV (atV (-1))), some (.ref sl), some (.ref rl), some (.int (h.young.length : Nat)), v9, v10, v11, v12, v13, v14, v15, v16] ∧
    LI C1 dl sl p p2 yl2 ol2 rd2 room i S rl yl ol rd h yi oi st rs
theorem Good0 : Good ⟨[], [], []⟩ [] [] [] [] :=
  ⟨⟨rfl, rfl, fun i o k e => by simp at e, fun i o k e => by simp at e⟩, by simp, fun r hr => by simp at hr, fun i o e => by simp at e, fun a ha => by simp at ha, fun s hs => by simp at hs⟩
theorem LI.keep {C1 dl sl p p2 yl2 ol2 rd2 : Addr} {room : Int} {i : Nat} {S S' : Sto} {rl yl ol rd : Addr} {h : He} {yi oi : List Nat} {st : List Ob} {rs : List Rt} (L : LI C1 dl sl p p2 yl2 ol2 rd2 room i S rl yl ol rd h yi oi st rs)
    (k : Keep [dl] S S') (d' : DrawAt S' dl) : LI C1 dl sl p p2 yl2 ol2 rd2 room i S' rl yl ol rd h yi oi st rs := by
  have nd := L.nd
  simp only [List.nodup_cons, List.mem_cons, List.not_mem_nil, or_false, not_or, List.nodup_nil, not_false_eq_true, and_true] at nd
  obtain ⟨⟨a1, a2, a3, a4, a5, a6, a7, a8, a9, a10⟩, _⟩ := nd
  exact ⟨L.H.keep k (by walk_at "nin") (by walk_at "nin") (by walk_at "nin") (by walk_at "nin"), L.H2.keep k (by walk_at "nin") (by walk_at "nin") (by walk_at "nin") (by walk_at "nin"), k _ _ L.hs (by walk_at "nin"), k _ _ L.hr (by walk_at "nin"), d', L.g, L.ful, L.n1, L.n2, L.n3, L.nd⟩
theorem LI.keep0 {C1 dl sl p p2 yl2 ol2 rd2 : Addr} {room : Int} {i : Nat} {S S' : Sto} {rl yl ol rd : Addr} {h : He} {yi oi : List Nat} {st : List Ob} {rs : List Rt} (L : LI C1 dl sl p p2 yl2 ol2 rd2 room i S rl yl ol rd h yi oi st rs)
    (k : Keep [] S S') : LI C1 dl sl p p2 yl2 ol2 rd2 room i S' rl yl ol rd h yi oi st rs := L.keep (k.mono (by simp)) (L.d.keep k (by simp))
section
variable {C1 dl sl p p2 yl2 ol2 rd2 : Addr} {room : Int} {i : Nat} {S S' : Sto} {rl yl ol rd x : Addr} {h : He} {yi oi : List Nat} {st : List Ob} {rs rs' : List Rt}
theorem LI.live (L : LI C1 dl sl p p2 yl2 ol2 rd2 room i S rl yl ol rd h yi oi st rs) (hx : S x = none) : x ∉ [dl, sl, rl, p, yl, ol, rd, p2, yl2, ol2, rd2] := by
  have h1 := L.H.fresh hx
  have h2 := L.H2.fresh hx
  simp only [List.mem_cons, List.not_mem_nil, or_false, not_or] at h1 h2 ⊢
  exact ⟨L.d.ne hx, fun e => (by rw [e, L.hs] at hx; cases hx), fun e => (by rw [e, L.hr] at hx; cases hx), h1.1, h1.2.1, h1.2.2.1, h1.2.2.2, h2⟩
theorem LI.succ (L : LI C1 dl sl p p2 yl2 ol2 rd2 room i S rl yl ol rd h yi oi st rs) : LI C1 dl sl p p2 yl2 ol2 rd2 room (i + 1) S rl yl ol rd h yi oi st rs :=
  { L with n1 := Nat.le_succ_of_le L.n1, n3 := Nat.le_succ_of_le L.n3 }
theorem Good.sub (g : Good h yi oi st rs) (s : ∀ r ∈ rs', r ∈ rs) : Good h yi oi st rs' := { g with rt := fun r hr => g.rt r (s r hr) }
theorem LI.newr (L : LI C1 dl sl p p2 yl2 ol2 rd2 room i S rl yl ol rd h yi oi st rs) (hf : S x = none) (k : Keep [] S S') (hr : S' x = some (.list (rs'.map encRt))) (s : Good h yi oi st rs') (n : rs'.length ≤ 6) :
    LI C1 dl sl p p2 yl2 ol2 rd2 room i S' x yl ol rd h yi oi st rs' := by
  have L2 := L.keep0 k
  exact ⟨L2.H, L2.H2, L2.hs, hr, L2.d, s, L.ful, L.n1, n, L.n3, set_nodup (i := 2) L.nd (L.live hf)⟩
end
structure LM (C1 dl sl p p2 yl2 ol2 rd2 : Addr) (room : Int) (i : Nat) (S : Sto) (rl yl ol rd : Addr) (h : He) (oi : List Nat) (st : List Ob) (rs : List Rt) (vals : List Val) : Prop where
  H : HAt C1 S p yl ol rd room h
  H2 : HAt C1 S p2 yl2 ol2 rd2 2 ⟨[o7], [], []⟩
  hs : S sl = some (.list (st.map encO))
  hr : S rl = some (.list (rs.map encRt))
  d : DrawAt S dl
  g : Good h [] oi st (vals.zip (rs.map (·.2)))
  ln : vals.length = rs.length
  hy : h.young = []
  hm : h.rem = []
  nd : [dl, sl, rl, p, yl, ol, rd, p2, yl2, ol2, rd2].Nodup
theorem zip_fst {vals : List Val} {rs : List Rt} (h : vals.length = rs.length) : (vals.zip (rs.map (·.2))).map (·.1) = vals := List.map_fst_zip (by rw [List.length_map]; omega)
theorem zip_snd {vals : List Val} {rs : List Rt} (h : vals.length = rs.length) : (vals.zip (rs.map (·.2))).map (·.2) = rs.map (·.2) := List.map_snd_zip (by rw [List.length_map]; omega)
def rootF (vals : List Val) : D → D
  | .tup [.int j, .tup [_, t]] => .tup [(vals.map encV).getD j.toNat .non, t]
  | d => d
theorem rootF_eq {vals : List Val} {rs : List Rt} (h : vals.length = rs.length) : (enumD (rs.map encRt)).map (rootF vals) = (vals.zip (rs.map (·.2))).map encRt := by
  apply List.ext_getElem?
  intro j
  by_cases hj : j < rs.length
  · have hv : j < vals.length := by omega
    have e1 : (rs.map encRt)[j]? = some (encRt rs[j]) := by rw [List.getElem?_map, List.getElem?_eq_getElem hj]; rfl
    have e3 : (vals.zip (rs.map (·.2)))[j]? = some (vals[j], rs[j].2) := by
      rw [List.getElem?_zip_eq_some]
      exact ⟨List.getElem?_eq_getElem hv, by rw [List.getElem?_map, List.getElem?_eq_getElem hj]; rfl⟩
    rw [List.getElem?_map, enumD_get e1, List.getElem?_map, e3]
    show some (D.tup [(vals.map encV).getD ((j : Int)).toNat .non, encV rs[j].2]) = some (D.tup [encV vals[j], encV rs[j].2])
    rw [Int.toNat_natCast, List.getD_eq_getElem?_getD, List.getElem?_map, List.getElem?_eq_getElem hv]
    rfl
  · rw [List.getElem?_eq_none (by rw [List.length_map, enumD_length, List.length_map]; omega), List.getElem?_eq_none (by rw [List.length_map, List.length_zip, List.length_map]; omega)]
def isRefT (st : List Ob) (r : Rt) : Bool := decide (r.2.1 = "no") && decide ((st.getD r.2.2.toNat o7).kind = "ref")
def refF (st : List Ob) : D → Option D
  | .tup [a, .tup [.str t, .int n]] => if isRefT st (("", 0), (t, n)) = true then some (.tup [a, .tup [.str t, .int n]]) else none
  | _ => none
theorem refF_eq (st : List Ob) : ∀ rs : List Rt, (rs.map encRt).filterMap (refF st) = (rs.filter (isRefT st)).map encRt
  | [] => rfl
  | r :: rs => by
    have ih := refF_eq st rs
    have e : refF st (encRt r) = if isRefT st r = true then some (encRt r) else none := rfl
    rw [List.map_cons]
    by_cases c : isRefT st r = true
    · rw [List.filterMap_cons, e, if_pos c, List.filter_cons, if_pos c]
      simp only
      rw [ih, List.map_cons]
    · rw [List.filterMap_cons, e, if_neg c, List.filter_cons, if_neg c]
      simp only
      rw [ih]
theorem cut1 (xs : List D) : DL.cutD xs (some 1) none = xs.drop 1 := by
  unfold DL.cutD HT.sIx
  simp
  cases xs with
  | nil => rfl
  | cons a t => simp
theorem cut6 (xs : List D) : DL.cutD xs (some (-6)) none = xs.drop (xs.length - 6) := by
  unfold DL.cutD HT.sIx
  simp
  have e : (-6 + (xs.length : Int)).toNat = xs.length - 6 := by omega
  rw [e, List.take_of_length_le (by rw [List.length_drop]; omega)]
def sp_law : DSp := fun ds S Q => ∃ ns : List Int, ds = [.lit (ns.map D.int)] ∧ ∀ S', Q (.bl true) S'
section
variable {K : PySem.W.Frag} {mg : Str → Option Value} {C1 C2 : Addr}
theorem ok_law (T : Top K mg C1 C2) : ∀ ds St Q, sp_law ds St Q → R_law K C1 C2 sp_draw sp_take (sp_init C1) (sp_make C1) (sp_full C1) (sp_counts C1) sp_pick (sp_store C1) (sp_minor C1) (sp_major C1) (sp_lmake C1) (sp_alike C1 5) (sp_look C1) (Ends Q) (startD N_law ds) St := by
  rintro ds St Q ⟨ns, rfl, q⟩
  unfold R_law
  walk_at "run"
  refine ⟨ns, rfl, fun dl S1 hdl d1 k1 => ?_⟩
  walk_at "run"
  refine ⟨dl, 6, rfl, d1, by decide, by decide, fun r S2 r0 r1 d2 k2 => ?_⟩
  walk_at "run"
  intro p hp
  have np := d2.ne hp
  have d3 : DrawAt (supd S2 p (.ins C1 [])) dl := d2.keep (Keep.new1 hp (L := [])) (by simp)
  refine ⟨p, 1 + r, rfl, supd_same, fun yl ol rd S3 hy ho hd H k3 => ⟨rfl, ?_⟩⟩
  have d4 := d3.keep k3 (by simp [Ne.symm np])
  walk_at "run"
  intro p2 hp2
  have d4s : S3 dl ≠ none := by obtain ⟨x, y, g, _⟩ := d4; rw [g]; simp
  have nn3 : ∀ {x : Addr}, S3 x = none → x ∉ [dl, p, yl, ol, rd] := fun {x} hx => by
    have h1 := H.fresh hx
    simp only [List.mem_cons, List.not_mem_nil, or_false, not_or] at h1 ⊢
    exact ⟨fun e => d4s (e ▸ hx), h1⟩
  have m0 := nn3 hp2
  refine ⟨p2, 2, rfl, supd_same, fun yl2 ol2 rd2 S4 hy2 ho2 hd2 H2 k4 => ⟨rfl, ?_⟩⟩
  have m1 := nn3 (sno.mp hy2).2
  have m2 := nn3 (sno.mp ho2).2
  have m3 := nn3 (sno.mp hd2).2
  have H4 : HAt C1 S4 p yl ol rd (1 + r) ⟨[], [], []⟩ := by
    have a := H.upd (x := .ins C1 []) (H.fresh hp2)
    have m0' := m0
    simp only [List.mem_cons, List.not_mem_nil, or_false, not_or] at m0'
    exact a.keep k4 (by simp [Ne.symm m0'.2.1]) (by simp [Ne.symm m0'.2.2.1]) (by simp [Ne.symm m0'.2.2.2.1]) (by simp [Ne.symm m0'.2.2.2.2])
  have d5 : DrawAt S4 dl := by
    have m0' := m0
    simp only [List.mem_cons, List.not_mem_nil, or_false, not_or] at m0'
    refine (d4.keep (Keep.new1 hp2 (L := [])) (by simp)).keep k4 (by simp [Ne.symm m0'.1])
  have i2 := H2.i
  walk_at "run"
  refine ⟨p2, yl2, ol2, rd2, 2, _, o7, rfl, H2, by decide, ?_⟩
  have H2' := H2.setY [o7]
  have m4 : yl2 ∉ [p, yl, ol, rd] := by simp at m1 ⊢; exact m1.2
  have H4' := H4.upd (x := .list ([o7].map encO)) m4
  have d6 : DrawAt (supd S4 yl2 (.list ([o7].map encO))) dl := by
    have m1' := m1
    simp only [List.mem_cons, List.not_mem_nil, or_false, not_or] at m1'
    exact d5.keep (Keep.upd (L := [yl2]) (by simp) (Keep.refl _ _)) (by simp [Ne.symm m1'.1])
  generalize hS5 : supd S4 yl2 (.list (([] ++ [o7]).map encO)) = S5
  rw [show ([o7] : List Ob) = [] ++ [o7] from rfl, hS5] at H2' H4' d6
  walk_at "run"
  intro sl hsl
  walk_at "run"
  intro rl hrl
  obtain ⟨nsr, hrl⟩ := sno.mp hrl
  have d6s : S5 dl ≠ none := by obtain ⟨x, y, g, _⟩ := d6; rw [g]; simp
  have nn5 : ∀ {x : Addr}, S5 x = none → x ∉ [dl, p, yl, ol, rd, p2, yl2, ol2, rd2] := fun {x} hx => by
    have h1 := H4'.fresh hx
    have h2 := H2'.fresh hx
    simp only [List.mem_cons, List.not_mem_nil, or_false, not_or] at h1 h2 ⊢
    exact ⟨fun e => d6s (e ▸ hx), h1.1, h1.2.1, h1.2.2.1, h1.2.2.2, h2⟩
  have m5 := nn5 hsl
  have m6 := nn5 hrl
  have e1 := H.py; have e2 := H.po; have e3 := H.pr; have e4 := H.yr; have e5 := H.or; have e6 := H.ne
  have f1 := H2.py; have f2 := H2.po; have f3 := H2.pr; have f4 := H2.yr; have f5 := H2.or; have f6 := H2.ne
  have g1 := d3.ne hy; have g2 := d3.ne ho; have g3 := d3.ne hd
  have nd : [dl, sl, rl, p, yl, ol, rd, p2, yl2, ol2, rd2].Nodup := by
    simp only [List.mem_cons, List.not_mem_nil, or_false, not_or] at m0 m1 m2 m3 m5 m6
    obtain ⟨m01, m02, m03, m04, m05⟩ := m0
    obtain ⟨m11, m12, m13, m14, m15⟩ := m1
    obtain ⟨m21, m22, m23, m24, m25⟩ := m2
    obtain ⟨m31, m32, m33, m34, m35⟩ := m3
    obtain ⟨m51, m52, m53, m54, m55, m56, m57, m58, m59⟩ := m5
    obtain ⟨m61, m62, m63, m64, m65, m66, m67, m68, m69⟩ := m6
    simp only [List.nodup_cons, List.mem_cons, List.not_mem_nil, or_false, not_or, List.nodup_nil, not_false_eq_true, and_true]
    (repeat' apply And.intro) <;> first | assumption | (apply Ne.symm; assumption)
  have nsl := (nn5 hsl)
  have nrl := (nn5 hrl)
  simp only [List.mem_cons, List.not_mem_nil, or_false, not_or] at nsl nrl
  have HA : HAt C1 (supd (supd S5 sl (.list [])) rl (.list [])) p yl ol rd (1 + r) ⟨[], [], []⟩ := (H4'.upd (by simp [nsl.2.1, nsl.2.2.1, nsl.2.2.2.1, nsl.2.2.2.2.1])).upd (by simp [nrl.2.1, nrl.2.2.1, nrl.2.2.2.1, nrl.2.2.2.2.1])
  have HB : HAt C1 (supd (supd S5 sl (.list [])) rl (.list [])) p2 yl2 ol2 rd2 2 ⟨[o7], [], []⟩ := (H2'.upd (by simp; exact nsl.2.2.2.2.2)).upd (by simp; exact nrl.2.2.2.2.2)
  have dB : DrawAt (supd (supd S5 sl (.list [])) rl (.list [])) dl := by
    obtain ⟨x, y, g, a, b⟩ := d6
    exact ⟨x, y, by rw [supd_ne (Ne.symm nrl.1), supd_ne (Ne.symm nsl.1)]; exact g, a, b⟩
  have sB : supd (supd S5 sl (.list [])) rl (.list []) sl = some (.list (([] : List Ob).map encO)) := by rw [supd_ne (Ne.symm nsr)]; exact supd_same
  have rB : supd (supd S5 sl (.list [])) rl (.list []) rl = some (.list (([] : List Rt).map encRt)) := supd_same
  generalize supd (supd S5 sl (.list [])) rl (.list []) = SB at HA HB dB sB rB
  walk_at "run"
  refine ⟨dl, 60, rfl, dB, by decide, by decide, fun r2 SC r20 r21 dC kC => ?_⟩
  have hr62 : -(2 ^ 62 : Int) ≤ 5 + r2 ∧ (5 + r2 : Int) < 2 ^ 62 := by omega
  walk_at "run"
  have L0 : LI C1 dl sl p p2 yl2 ol2 rd2 (1 + r) 0 SB rl yl ol rd ⟨[], [], []⟩ [] [] [] [] := ⟨HA, HB, sB, rB, dB, Good0, by show ((0 : Nat) : Int) ≤ _; omega, Nat.le_refl _, by simp, by simp, nd⟩
  refine ⟨LIx C1 ns dl sl p p2 yl2 ol2 rd2 (1 + r), ⟨rl, yl, ol, rd, ⟨[], [], []⟩, [], [], [], [], none, none, none, none, none, none, none, none, rfl, L0.keep kC dC⟩, ?_⟩
  rintro i ρ S hi ⟨rl, yl, ol, rd, h, yi, oi, st, rs, v9, v10, v11, v12, v13, v14, v15, v16, rfl, L⟩
  refine ⟨trivial, fun d hd => ?_, fun _ => ?_⟩
  · obtain ⟨hi2, rfl⟩ := rng_get hd
    have hi64 : i < 70 := by omega
    have i0 := L.H.i
    walk_at "run"
    refine ⟨p, yl, ol, rd, _, h, rfl, L.H, ?_⟩
    have hfull : decide ((1 + r) ≤ (h.young.length : Int)) = decide ((h.young.length : Int) = 1 + r) := by have := L.ful; congr 1; apply propext; omega
    walk_at "run"
    refine ⟨p, yl, ol, rd, _, h, rfl, L.H, ?_⟩
    walk_at "run"
    refine ⟨dl, 8, rfl, L.d, by decide, by decide, fun w S1 w0 w1 d1 k1 => ?_⟩
    have L1 := L.keep k1 d1
    have hr1 := L1.hr
    walk_at "run"
    refine lc_pure (refF st) ?_ ?_ ?_ ?_
    · show (rs.map encRt).length ≤ _
      have := L.n2
      rw [List.length_map]; exact Nat.le_trans this (by decide)
    · exact fun S' k => k _ _ hr1 (by simp)
    · intro j d S' Q' e hd0 k0 hq
      obtain ⟨x, hx, rfl⟩ := map_get hd0
      have hq2 : ∀ S'', Keep [] S' S'' → match (if isRefT st x = true then some (encRt x) else none) with | some y => Q' y S'' | none => e S'' := hq
      have hs1 := k0 _ _ L1.hs (by simp)
      have hxr := L.g.rt x (List.mem_of_getElem? hx)
      walk_at "run"
      refine r_ifd (P := x.2.1 = "no") (fun c => ?_) (fun c => ?_)
      · have hst : ∃ s, st[x.2.2.toNat]? = some s ∧ 0 ≤ x.2.2 := by
          rcases hxr with ⟨_, _, c3, c4⟩ | ⟨c1, _⟩
          · obtain ⟨o, s, _, c5, _⟩ := L.g.c.at c4
            exact ⟨s, c5, c3⟩
          · rw [c] at c1; exact absurd c1 (by decide +kernel)
        obtain ⟨s, hst, h0⟩ := hst
        have g2 : atI (st.map encO) x.2.2 = some (encO s) := atI_i h0 (by rw [List.getElem?_map, hst]; rfl)
        have eT : isRefT st x = decide (s.kind = "ref") := by
          unfold isRefT
          rw [decide_eq_true c, List.getD_eq_getElem?_getD, hst]
          rfl
        walk_at "run"
        refine r_ifd (P := s.kind = "ref") (fun c2 => ?_) (fun c2 => ?_)
        · have := hq2 S' (Keep.refl _ _)
          rw [eT, decide_eq_true c2] at this
          walk_at "run"
          exact this
        · have := hq2 S' (Keep.refl _ _)
          rw [eT, decide_eq_false c2] at this
          exact this
      · have eT : isRefT st x = false := by unfold isRefT; rw [decide_eq_false c]; rfl
        have := hq2 S' (Keep.refl _ _)
        rw [eT] at this
        exact this
    intro fl S2 hfl hS2 k2
    have L2 := L1.keep0 k2
    have hS2 : S2 fl = some (.list ((rs.filter (isRefT st)).map encRt)) := by rw [← refF_eq]; exact hS2
    have nfl := d1.ne hfl
    refine r_gN ?_
    refine r_seq ?_
    refine r_cutI (LIx C1 ns dl sl p p2 yl2 ol2 rd2 (1 + r) (i + 1)) ?_ (fun nx hn => ?_)
    · rintro ρ S9 ⟨rl, yl, ol, rd, h, yi, oi, st, rs, v9, v10, v11, v12, v13, v14, v15, v16, rfl, L⟩
      have hr9 := L.hr
      walk_at "run"
      refine ⟨fun j ρ S => S = S9 ∧ ∃ v13, ρ = [some (.lit (ns.map D.int)), some (.ref dl), some (.int (1 + r)), some (.ref p), some (.ref p2), some (encV (atV (-1))), some (.ref sl), some (.ref rl), some (.int (h.young.length : Nat)), v9, v10, v11, v12, v13, v14, v15, v16], ⟨rfl, v13, rfl⟩, ?_⟩
      rintro j ρ S hj ⟨rfl, v13, rfl⟩
      refine ⟨hr9, fun d hd => ?_, fun _ => ?_⟩
      · obtain ⟨x, hx, rfl⟩ := map_get hd
        walk_at "run"
        refine ⟨x.1, x.2, p, sl, yl, ol, rd, _, h, st, yi, oi, rfl, L.H, L.hs, L.g.c, L.g.rt x (List.mem_of_getElem? hx), ?_⟩
        walk_at "run"
        exact ⟨rfl, _, rfl⟩
      · exact ⟨rl, yl, ol, rd, h, yi, oi, st, rs, _, _, _, _, _, _, _, _, rfl, L⟩
    have hr2 := L2.hr
    have nd := L2.nd
    have ful2 := L2.ful
    simp only [List.nodup_cons, List.mem_cons, List.not_mem_nil, or_false, not_or, List.nodup_nil, not_false_eq_true, and_true] at nd
    obtain ⟨⟨a1, a2, a3, a4, a5, a6, a7, a8, a9, a10⟩, ⟨b1, b2, b3, b4, b5, b6, b7, b8, b9⟩, ⟨c1, c2, c3, c4, c5, c6, c7, c8⟩, ⟨e1, e2, e3, e4, e5, e6, e7⟩, ⟨f1, f2, f3, f4, f5, f6⟩, ⟨g1, g2, g3, g4, g5⟩, ⟨h1, h2, h3, h4⟩, _⟩ := nd
    have szS := L2.n1
    have szR := L2.n2
    refine r_else ?_ (fun hE => ?_)
    · have szF : (rs.filter (isRefT st)).length ≤ rs.length := List.length_filter_le _ _
      have len2 : ((rs.filter (isRefT st)).map encRt).length = (rs.filter (isRefT st)).length := List.length_map _
      refine r_else ?_ (fun hE => ?_)
      · refine r_then ?_ (fun hC => ?_)
        · have ip2 := L2.H.i
          walk_at "run"
          refine lc_map (fun d => match d with | .tup (a :: _) => a | d => d) ?_ ?_ ?_ ?_
          · show (rs.map encRt).length ≤ _
            rw [List.length_map]; exact Nat.le_trans szR (by decide)
          · exact fun S' k => k _ _ hr2 (by simp)
          · intro j d S' Q' e hd0 k0 hq
            obtain ⟨x, hx, rfl⟩ := map_get hd0
            walk_at "run"
            exact hq S' (Keep.refl _ _)
          intro ml S3 hml hS3 k3
          have L3 := L2.keep0 k3
          walk_at "run"
          have hst5 : st.length < 5000 := by omega
          have hyk : ∀ v ∈ rs.map (·.1), YOk h.young.length v := fun v hv => by
            obtain ⟨x, hx, rfl⟩ := List.mem_map.mp hv
            have := (L.g.rt x hx).yok
            rw [L.g.c.ly] at this; exact this
          refine ⟨p, yl, ol, rd, _, h, rs.map (·.1), ?_, L3.H, L.g.wf hst5, hyk, by rw [List.length_map]; omega, fun S4 yl' rd' hy' hd' H4 k4 => ?_⟩
          · show [D.ref p, .tup _] = [D.ref p, .tup _]
            rw [List.map_map, List.map_map]; rfl
          obtain ⟨oi1, G1⟩ := L.g.minor
          have m1 := L3.live hy'
          have m2 := L3.live hd'
          have nyr := H4.yr
          have nd1 : [dl, sl, rl, p, yl', ol, rd', p2, yl2, ol2, rd2].Nodup := by
            have := set_nodup (i := 4) L3.nd m1
            refine set_nodup (i := 6) this (fun z => ?_)
            rcases List.mem_or_eq_of_mem_set z with z | z
            · exact m2 z
            · exact nyr z.symm
          have len1 : (minorF h (rs.map (·.1))).1.length = rs.length := by unfold minorF mvA; rw [movesF_len, List.length_map]
          have M1 : LM C1 dl sl p p2 yl2 ol2 rd2 (1 + r) i S4 rl yl' ol rd' (minorF h (rs.map (·.1))).2 oi1 st rs (minorF h (rs.map (·.1))).1 :=
            ⟨H4, L3.H2.keep k4 (by walk_at "nin") (by walk_at "nin") (by walk_at "nin") (by walk_at "nin"), k4 _ _ L3.hs (by walk_at "nin"), k4 _ _ L3.hr (by walk_at "nin"), L3.d.keep k4 (by walk_at "nin"), G1, len1, rfl, rfl, nd1⟩
          generalize (minorF h (rs.map (·.1))).2 = hA at M1
          generalize (minorF h (rs.map (·.1))).1 = vA at M1
          refine r_gN ?_
          refine r_seq ?_
          refine r_cutI (fun ρ S => ∃ yl ol rd h oi vals v8 v9 v10 v11 v12 v13 v14 v16, ρ = [some (.lit (ns.map D.int)), some (.ref dl), some (.int (1 + r)), some (.ref p), some (.ref p2), some (encV (atV (-1))), some (.ref sl), some (.ref rl), v8, v9, v10, v11, v12, v13, v14, some (.tup (vals.map encV)), v16] ∧
            LM C1 dl sl p p2 yl2 ol2 rd2 (1 + r) i S rl yl ol rd h oi st rs vals) ?_ (fun nx2 hn2 => ?_)
          · rintro ρ S5 ⟨yl, ol, rd, h, oi, vals, v8, v9, v10, v11, v12, v13, v14, v16, rfl, M⟩
            have hr5 := M.hr
            walk_at "run"
            refine lc_map (rootF vals) ?_ ?_ ?_ ?_
            · show (enumD (rs.map encRt)).length ≤ _
              rw [enumD_length, List.length_map]; exact Nat.le_trans szR (by decide)
            · exact fun S' k => k _ _ hr5 (by simp)
            · intro j d S' Q' e hd0 k0 hq
              obtain ⟨x, hx, rfl⟩ := enum_get hd0
              have hjl := (List.getElem?_eq_some_iff.mp hx).1
              have hv : vals[j]? = some (vals[j]'(by rw [M.ln]; exact hjl)) := List.getElem?_eq_getElem _
              have gv : atI (vals.map encV) (j : Int) = some (encV (vals[j]'(by rw [M.ln]; exact hjl))) := atI_n (by rw [List.getElem?_map, hv]; rfl)
              walk_at "run"
              have e2 : rootF vals (.tup [.int (j : Int), encRt x]) = .tup [encV (vals[j]'(by rw [M.ln]; exact hjl)), encV x.2] := by
                show D.tup [(vals.map encV).getD ((j : Int)).toNat .non, encV x.2] = _
                rw [Int.toNat_natCast, List.getD_eq_getElem?_getD, List.getElem?_map, hv]
                rfl
              have := hq S' (Keep.refl _ _)
              rw [e2] at this
              exact this
            intro nl S6 hnl hS6 k6
            have hS6 : S6 nl = some (.list ((vals.zip (rs.map (·.2))).map encRt)) := by rw [← rootF_eq M.ln]; exact hS6
            walk_at "run"
            have LL : LI C1 dl sl p p2 yl2 ol2 rd2 (1 + r) i S5 rl yl ol rd h [] oi st rs → True := fun _ => trivial
            have nl1 : nl ∉ [dl, sl, rl, p, yl, ol, rd, p2, yl2, ol2, rd2] := by
              have h1 := M.H.fresh hnl
              have h2 := M.H2.fresh hnl
              simp only [List.mem_cons, List.not_mem_nil, or_false, not_or] at h1 h2 ⊢
              exact ⟨M.d.ne hnl, fun e => (by rw [e, M.hs] at hnl; cases hnl), fun e => (by rw [e, M.hr] at hnl; cases hnl), h1.1, h1.2.1, h1.2.2.1, h1.2.2.2, h2⟩
            refine hn _ _ ⟨nl, yl, ol, rd, h, [], oi, st, vals.zip (rs.map (·.2)), _, _, _, _, _, _, _, _, by rw [M.hy]; rfl, ?_⟩
            exact ⟨M.H.keep k6 (by simp) (by simp) (by simp) (by simp), M.H2.keep k6 (by simp) (by simp) (by simp) (by simp), k6 _ _ M.hs (by simp), hS6, M.d.keep k6 (by simp), M.g, by rw [M.hy]; show ((0 : Nat) : Int) ≤ _; omega, by omega, by rw [List.length_zip, List.length_map, M.ln]; omega, by rw [M.hm]; simp, set_nodup (i := 2) M.nd nl1⟩
          · walk_at "run"
            refine r_ifd (P := w = 4) (fun c => ?_) (fun c => ?_)
            · have ip4 := M1.H.i
              walk_at "run"
              have hyA := M1.hy
              have hmA := M1.hm
              obtain ⟨oi2, G2⟩ := M1.g.minor
              rw [zip_fst M1.ln, zip_snd M1.ln] at G2
              have eM : (minorF hA vA).2 = ⟨[], (minorF hA vA).2.old, []⟩ := rfl
              rw [eM] at G2
              have lenM : (minorF hA vA).1.length = rs.length := by unfold minorF mvA; rw [movesF_len]; exact M1.ln
              have hyk2 : ∀ v ∈ vA, YOk hA.young.length v := fun v hv => by
                have hz := zip_fst M1.ln
                rw [← hz] at hv
                obtain ⟨x, hx, rfl⟩ := List.mem_map.mp hv
                have := (M1.g.rt x hx).yok
                rw [M1.g.c.ly] at this; exact this
              have hvk := G2.vok
              rw [zip_fst lenM] at hvk
              refine ⟨p, yl', ol, rd', _, hA, vA, rfl, M1.H, M1.g.wf hst5, hyk2, by rw [M1.ln]; omega, G2.wfR hst5, hvk, fun R S5 yl3 ol3 rd3 hR ndR rgR y3 o3 d3 H5 k5 => ?_⟩
              have hR2 : ReachR (minorF hA vA).2.old [] (((minorF hA vA).1.zip (rs.map (·.2))).map (·.1)) R := by rw [zip_fst lenM]; exact hR
              obtain ⟨oi3, G3⟩ := G2.major hR2 ndR rgR
              have live4 : ∀ {x : Addr}, S4 x = none → x ∉ [dl, sl, rl, p, yl', ol, rd', p2, yl2, ol2, rd2] := fun {x} hx => by
                have h1 := M1.H.fresh hx
                have h2 := M1.H2.fresh hx
                simp only [List.mem_cons, List.not_mem_nil, or_false, not_or] at h1 h2 ⊢
                exact ⟨M1.d.ne hx, fun e => (by rw [e, M1.hs] at hx; cases hx), fun e => (by rw [e, M1.hr] at hx; cases hx), h1.1, h1.2.1, h1.2.2.1, h1.2.2.2, h2⟩
              have q1 := live4 y3
              have q2 := live4 o3
              have q3 := live4 d3
              have ne1 := H5.ne
              have ne2 := H5.yr
              have ne3 := H5.or
              have nd2 : [dl, sl, rl, p, yl3, ol3, rd3, p2, yl2, ol2, rd2].Nodup := by
                have t1 := set_nodup (i := 4) M1.nd q1
                have t2 : ol3 ∉ [dl, sl, rl, p, yl3, ol, rd', p2, yl2, ol2, rd2] := fun z => by
                  have z : ol3 ∈ [dl, sl, rl, p, yl', ol, rd', p2, yl2, ol2, rd2].set 4 yl3 := z
                  rcases List.mem_or_eq_of_mem_set z with z | z
                  · exact q2 z
                  · exact ne1 z.symm
                have t3 := set_nodup (i := 5) t1 t2
                refine set_nodup (i := 6) t3 (fun z => ?_)
                rcases List.mem_or_eq_of_mem_set z with z | z
                · rcases List.mem_or_eq_of_mem_set z with z | z
                  · exact q3 z
                  · exact ne2 z.symm
                · exact ne3 z.symm
              have ez : ((minorF hA vA).1.zip (rs.map (·.2))).map (fun r => (placedF (plK (sortI R)) r.1, r.2)) = ((minorF hA vA).1.map (placedF (plK (sortI R)))).zip (rs.map (·.2)) := by
                rw [List.zip_map_left]; rfl
              rw [ez] at G3
              have szO := G3.sz
              have i5 := H5.i
              walk_at "run"
              refine ⟨p, yl3, ol3, rd3, _, _, rfl, H5, ?_⟩
              have hs5 := k5 _ _ M1.hs (by walk_at "nin")
              have gz : ¬ (((st.map encO).length : Nat) : Int) < ((keptO (minorF hA vA).2.old R).length : Nat) := by
                rw [List.length_map]
                have : ([] : List Ob).length + (keptO (minorF hA vA).2.old R).length ≤ st.length := szO
                simp at this
                omega
              walk_at "run"
              refine ⟨p, yl3, ol3, rd3, _, _, rfl, H5, ?_⟩
              walk_at "run"
              exact hn2 _ _ ⟨yl3, ol3, rd3, _, oi3, _, _, _, _, _, _, _, _, _, rfl,
                ⟨H5, M1.H2.keep k5 (by walk_at "nin") (by walk_at "nin") (by walk_at "nin") (by walk_at "nin"), hs5, k5 _ _ M1.hr (by walk_at "nin"), M1.d.keep k5 (by walk_at "nin"), G3, by rw [List.length_map]; exact lenM, rfl, rfl, nd2⟩⟩
            · walk_at "run"
              exact hn2 _ _ ⟨yl', ol, rd', hA, oi1, vA, _, _, _, _, _, _, _, _, rfl, M1⟩
        · walk_at "run"
          refine r_ifd (P := w = 3) (fun c => by exact hC) (fun c => ?_)
          walk_at "run"
          refine r_ifd (P := (h.young.length : Int) = 1 + r) (fun c => by exact hC) (fun c => ?_)
          walk_at "run"
          refine ⟨dl, p, sl, rl, yl, ol, rd, _, h, st, rs, rfl, L2.d, L2.H, by omega, L2.hs, by omega, hr2, by omega, by walk_at "nin", a1, a2, b3, c2, b1, b4, fun o s S3 no d3 H3 hs3 k3 => ?_⟩
          have hr3 := k3 _ _ hr2 (by walk_at "nin")
          walk_at "run"
          intro t1 ht1
          have nt1 : t1 ≠ rl := fun e => by rw [e, hr3] at ht1; cases ht1
          have hlen3 : (rs.map encRt).length + [encRt (atV (-(h.young.length + 1)), (("no" : Str), (st.length : Int)))].length ≤ sizeLine := by
            rw [List.length_map]; exact Nat.le_trans (by simp; omega : _ ≤ 1000) (by decide)
          walk_at "run"
          intro t2 ht2
          walk_at "run"
          intro t3 ht3
          walk_at "run"
          have G := L.g.make no
          have el2 : ((({ h with young := h.young ++ [o] } : He).young.length : Nat) : Int) = (h.young.length : Int) + 1 := by simp
          have k12 : Keep [] S3 (supd (supd (supd S3 t1 (.list [encRt (atV (-(h.young.length + 1)), (("no" : Str), (st.length : Int)))])) t2 (.list (rs.map encRt ++ [encRt (atV (-(h.young.length + 1)), (("no" : Str), (st.length : Int)))]))) t3 (.list (DL.cutD (rs.map encRt ++ [encRt (atV (-(h.young.length + 1)), (("no" : Str), (st.length : Int)))]) (some (-6)) none))) :=
            Keep.nw (sno.mp (sno.mp ht3).2).2 (Keep.nw (sno.mp ht2).2 (Keep.nw ht1 (Keep.refl _ _)))
          have ea : rs.map encRt ++ [encRt (atV (-(h.young.length + 1)), (("no" : Str), (st.length : Int)))] = (rs ++ [(atV (-(h.young.length + 1)), (("no" : Str), (st.length : Int)))]).map encRt := by rw [List.map_append]; rfl
          have L3 : LI C1 dl sl p p2 yl2 ol2 rd2 (1 + r) (i + 1) S3 rl yl ol rd { h with young := h.young ++ [o] } (yi ++ [st.length]) oi (st ++ [s]) rs :=
            ⟨H3, L2.H2.keep k3 (by walk_at "nin") (by walk_at "nin") (by walk_at "nin") (by walk_at "nin"), hs3, hr3, d3, G.sub (fun r hr => List.mem_append_left _ hr), by show (((h.young ++ [o]).length : Nat) : Int) ≤ _; rw [List.length_append, List.length_singleton]; omega, by rw [List.length_append, List.length_singleton]; omega, szR, Nat.le_succ_of_le L2.n3, L2.nd⟩
          refine hn _ _ ⟨t3, yl, ol, rd, { h with young := h.young ++ [o] }, yi ++ [st.length], oi, st ++ [s], (rs ++ [(atV (-(h.young.length + 1)), (("no" : Str), (st.length : Int)))]).drop ((rs ++ [(atV (-(h.young.length + 1)), (("no" : Str), (st.length : Int)))]).length - 6), _, _, _, _, _, _, _, _, by rw [el2]; rfl, L3.newr (sno.mp (sno.mp ht3).2).2 k12 ?_ (G.sub fun r hr => List.mem_of_mem_drop hr) (by rw [List.length_drop]; omega)⟩
          rw [ea, cut6, List.length_map, ← List.map_drop]
          exact supd_same
      · walk_at "run"
        refine r_ifd (P := w < 3) (fun c => ?_) (fun c => by exact hE)
        walk_at "run"
        refine r_ifd (P := (0 : Int) < (((rs.filter (isRefT st)).map encRt).length : Nat)) (fun c' => ?_) (fun c' => by exact hE)
        walk_at "run"
        refine ⟨dl, _, rfl, L2.d, c', by rw [len2]; omega, fun j S3 j0 j1 d3 k3 => ?_⟩
        have L3 := L2.keep k3 d3
        have hS3 := k3 _ _ hS2 (by simp [nfl])
        rw [len2] at j1
        obtain ⟨x, x1, _, x2⟩ := at_lt j0 j1
        have gx : atI ((rs.filter (isRefT st)).map encRt) j = some (encRt x) := atI_i j0 (by rw [List.getElem?_map, x2]; rfl)
        rw [List.mem_filter] at x1
        obtain ⟨x1, xr⟩ := x1
        have hr3 := L3.hr
        walk_at "run"
        refine ⟨dl, rl, rs, rfl, d3, hr3, by omega, a2, fun y S4 hy d4 k4 => ?_⟩
        have L4 := L3.keep k4 d4
        have i4 := L4.H.i
        have hyv := pick_rv L.g.rt hy
        have xno : x.2.1 = "no" := by unfold isRefT at xr; simp at xr; exact xr.1
        obtain ⟨s, hst, h0⟩ : ∃ s, st[x.2.2.toNat]? = some s ∧ 0 ≤ x.2.2 := by
          rcases L.g.rt x x1 with ⟨_, _, c3, c4⟩ | ⟨c1, _⟩
          · obtain ⟨o, s, _, c5, _⟩ := L.g.c.at c4
            exact ⟨s, c5, c3⟩
          · rw [xno] at c1; exact absurd c1 (by decide +kernel)
        have xk : s.kind = "ref" := by
          unfold isRefT at xr
          rw [List.getD_eq_getElem?_getD, hst] at xr
          simp at xr; exact xr.2
        obtain ⟨o, ho⟩ : ∃ o, objAt h x.1.2 = some o := by
          rcases L.g.rt x x1 with ⟨_, _, c3, c4⟩ | ⟨c1, _⟩
          · obtain ⟨o, s, c5, _, _⟩ := L.g.c.at c4
            exact ⟨o, c5⟩
          · rw [xno] at c1; exact absurd c1 (by decide +kernel)
        walk_at "run"
        refine ⟨p, yl, ol, rd, _, h, x.1, o, y.1, rfl, L4.H, ho, by have := L4.n3; omega, fun S5 H5 k5 => ?_⟩
        have hs5 := k5 _ _ L4.hs (by walk_at "nin")
        have gi : ixN (st.map encO).length x.2.2 = some x.2.2.toNat := ixN_i h0 (by have := (List.getElem?_eq_some_iff.mp hst).1; rw [List.length_map]; omega)
        walk_at "run"
        have ey : (storeF h x.1.2 o y.1).young.length = h.young.length := by unfold storeF; split <;> simp
        have er : (storeF h x.1.2 o y.1).rem.length ≤ h.rem.length + 1 := by
          unfold storeF remF
          split
          · simp
          · dsimp only
            split
            · split
              · omega
              · simp
            · omega
        have G := L.g.store x1 xno hst xk hyv ho
        refine hn _ _ ⟨rl, yl, ol, rd, storeF h x.1.2 o y.1, yi, oi, st.set x.2.2.toNat ⟨"ref", .int 0, [y.2]⟩, rs, _, _, _, _, _, _, _, _, by rw [ey]; rfl, ?_⟩
        have hset : (st.map encO).set x.2.2.toNat (D.tup [.str "ref", .int 0, .tup [encV y.2]]) = (st.set x.2.2.toNat (⟨"ref", .int 0, [y.2]⟩ : Ob)).map encO := by rw [List.map_set]; rfl
        rw [hset]
        have H2' := L4.H2.keep k5 (by walk_at "nin") (by walk_at "nin") (by walk_at "nin") (by walk_at "nin")
        refine ⟨H5.upd (by walk_at "nin"), H2'.upd (by walk_at "nin"), supd_same, ?_, ?_, G, by rw [ey]; exact L4.ful, by rw [List.length_set]; omega, szR, by have := L4.n3; omega, L2.nd⟩
        · rw [supd_ne (Ne.symm b1)]; exact k5 _ _ L4.hr (by walk_at "nin")
        · obtain ⟨u, v, g, gg⟩ := L4.d
          exact ⟨u, v, by rw [supd_ne a1]; exact k5 _ _ g (by walk_at "nin"), gg⟩
    · walk_at "run"
      refine r_ifd (P := w = 0) (fun c => ?_) (fun c => by exact hE)
      walk_at "run"
      refine r_ifd (P := (0 : Int) < ((rs.map encRt).length : Nat)) (fun c' => ?_) (fun c' => by exact hE)
      walk_at "run"
      intro x hx
      walk_at "run"
      refine hn _ _ ⟨x, yl, ol, rd, h, yi, oi, st, rs.drop 1, _, _, _, _, _, _, _, _, rfl, (L2.newr hx (Keep.new1 hx) ?_ (L2.g.sub fun r hr => List.mem_of_mem_drop hr) (by rw [List.length_drop]; omega)).succ⟩
      rw [cut1, ← List.map_drop]
      exact supd_same
  · have i2 := L.H2.i
    walk_at "run"
    refine ⟨p2, yl2, ol2, rd2, 2, _, rfl, L.H2, ?_⟩
    have k1 : okD (.tup [D.int (1 : Nat), D.int (0 : Nat), D.int (0 : Nat)]) = true := by decide +kernel
    have k2 : okD (.tup [D.int 1, D.int 0, D.int 0]) = true := by decide +kernel
    have k3 : deq (.tup [D.int (1 : Nat), D.int (0 : Nat), D.int (0 : Nat)]) (.tup [D.int 1, D.int 0, D.int 0]) = true := by decide +kernel
    walk_at "run"
    refine r_if (fun _ => ?_) (fun e => absurd (k3.symm.trans e) (by simp))
    walk_at "run"
    refine ⟨p2, yl2, ol2, rd2, 2, _, atV (-1), o7, rfl, L.H2, rfl, ?_⟩
    have k4 : okD (encO o7) = true := by decide +kernel
    have k5 : deq (encO o7) (encO o7) = true := by decide +kernel
    walk_at "run"
    have k6 : Q.less (.bl (deq (encO o7) (encO o7))) S := by rw [k5]; exact less_same (q _)
    exact k6
end
end K57

namespace K57
open PySem L2 PySem.Spec PyProof.Rows DL
section
variable {P : Program} {w : World} {K : PySem.W.Frag} {mg : Str → Option Value} {base : Heap} {C1 C2 : Addr}
theorem cal_alike (T : Top K mg C1 C2) (c_look : MCal P w K mg base 1 C1 "look" (sp_look C1)) : ∀ n : Nat, Cal P w K mg base (n + 2) "_law_alike" (sp_alike C1 n)
  | 0 => w__law_alike T (k := 1) c_look (Def.none T.d__law_alike 1) (fun ds St Q ⟨_, _, _, _, _, _, _, _, _, _, _, _, e, _⟩ => by rw [e]; rfl) (ok_alike 0)
  | n + 1 => w__law_alike T (k := n + 2) (c_look.mono (by omega)) (cal_alike T c_look n) (fun ds St Q ⟨_, _, _, _, _, _, _, _, _, _, _, _, e, _⟩ => by rw [e]; rfl) (ok_alike (n + 1))
theorem law_ok (T : Top K mg C1 C2) {f : Addr} {fd : FuncData} (F : FnD K "law" "law" s_law f fd) : FnOk P w K mg base CX0 9 f fd ["script"] (fun vs H Q _ => lC K sp_law vs H Q) := by
  have c1 : Cal P w K mg base 1 "is_young" sp_is_young := w_is_young T (k := 0) (fun ds St Q ⟨_, e, _⟩ => by rw [e]; rfl) ok_is_young
  have c2 : NCal P w K mg base 1 C1 "Heap" (sp_init C1) := w_Heap___init__ T (k := 0) (fun ds St Q ⟨_, _, e, _⟩ => by rw [e]; rfl) (ok_init T)
  have c3 : MCal P w K mg base 1 C1 "look" (sp_look C1) := w_Heap_look T (k := 0) (fun ds St Q ⟨_, _, _, _, _, _, _, _, e, _⟩ => by rw [e]; rfl) (ok_look T)
  have c4 : MCal P w K mg base 1 C1 "is_full" (sp_full C1) := w_Heap_is_full T (k := 0) (fun ds St Q ⟨_, _, _, _, _, _, e, _⟩ => by rw [e]; rfl) (ok_full T)
  have c5 : MCal P w K mg base 1 C1 "counts" (sp_counts C1) := w_Heap_counts T (k := 0) (fun ds St Q ⟨_, _, _, _, _, _, e, _⟩ => by rw [e]; rfl) (ok_counts T)
  have c6 : MCal P w K mg base 1 C1 "make" (sp_make C1) := w_Heap_make T (k := 0) (fun ds St Q ⟨_, _, _, _, _, _, _, e, _⟩ => by rw [e]; rfl) (ok_make T)
  have c7 : Cal P w K mg base 1 "placed" sp_placed := w_placed T (k := 0) (fun ds St Q ⟨_, _, _, e, _⟩ => by rw [e]; rfl) ok_placed
  have c8 : Cal P w K mg base 1 "_law_take" sp_take := w__law_take T (k := 0) (fun ds St Q ⟨_, _, e, _⟩ => by rw [e]; rfl) ok_take
  have c9 : Cal P w K mg base 1 "_law_draw" sp_draw := w__law_draw T (k := 0) (fun ds St Q ⟨_, e, _⟩ => by rw [e]; rfl) ok_draw
  have c10 : NCal P w K mg base 1 C2 "Moving" (sp_minit C2) := w_Moving___init__ T (k := 0) (fun ds St Q ⟨_, _, e, _⟩ => by rw [e]; rfl) (ok_minit T)
  have c11 : MCal P w K mg base 2 C1 "store" (sp_store C1) := w_Heap_store T (k := 1) c3 c1 (fun ds St Q ⟨_, _, _, _, _, _, _, _, _, e, _⟩ => by rw [e]; rfl) (ok_store T)
  have c12 : MCal P w K mg base 2 C2 "value" (sp_value C1 C2) := w_Moving_value T (k := 1) c1 c3 (fun ds St Q ⟨_, _, _, _, _, _, _, _, _, _, _, _, e, _⟩ => by rw [e]; rfl) (ok_value T)
  have c13 : MCal P w K mg base 3 C2 "adjust" (sp_adjust C1 C2) := w_Moving_adjust T (k := 2) c12 (fun ds St Q ⟨_, _, _, _, _, _, _, _, _, _, _, _, e, _⟩ => by rw [e]; rfl) (ok_adjust T)
  have c14 : MCal P w K mg base 5 C1 "minor" (sp_minor C1) := w_Heap_minor T (k := 3) (c10.mono (by decide)) (c12.mono (by decide)) c13 (fun ds St Q ⟨_, _, _, _, _, _, _, e, _⟩ => by rw [e]; rfl) (ok_minor T)
  have c15 : MCal P w K mg base 1 C1 "reached" (sp_reached C1) := w_Heap_reached T (k := 0) (fun ds St Q ⟨_, _, _, _, _, _, _, e, _⟩ => by rw [e]; rfl) (ok_reached T)
  have c16 : MCal P w K mg base 6 C1 "major" (sp_major C1) := w_Heap_major T (k := 5) c14 (c15.mono (by decide)) (c7.mono (by decide)) (fun ds St Q ⟨_, _, _, _, _, _, _, e, _⟩ => by rw [e]; rfl) (ok_major T)
  have c17 : Cal P w K mg base 2 "_law_pick" sp_pick := w__law_pick T (k := 1) c8 (fun ds St Q ⟨_, _, _, e, _⟩ => by rw [e]; rfl) ok_pick
  have c18 : Cal P w K mg base 3 "_law_make" (sp_lmake C1) := w__law_make T (k := 2) (c8.mono (by decide)) c17 (c6.mono (by decide)) (fun ds St Q ⟨_, _, _, _, _, _, _, _, _, _, _, e, _⟩ => by rw [e]; rfl) (ok_lmake T)
  have c19 : Cal P w K mg base 7 "_law_alike" (sp_alike C1 5) := cal_alike T c3 5
  exact w_law T F (k := 7) (c9.mono (by decide)) (c8.mono (by decide)) (c2.mono (by decide)) (c6.mono (by decide)) (c4.mono (by decide)) (c5.mono (by decide)) (c17.mono (by decide)) (c11.mono (by decide)) (c14.mono (by decide)) (c16.mono (by decide)) (c18.mono (by decide)) c19 (c3.mono (by decide)) (fun ds St Q ⟨_, e, _⟩ => by rw [e]; rfl) (ok_law T)
end
theorem facts {P : Program} {w : World} {K : PySem.W.Frag} {h : Heap} {mg : Str → Option Value} {f : Addr} (X : K.In h) (G : h.Ns mainGlobals mg) (hfa : mg ("law" : Str) = some (.ref f)) (c : He.SaysD fa fn K) :
    ∃ fd : FuncData, (∀ (s : Shared) (v : Value), BindsTo s fd ⟨[v], []⟩ [("script", v)]) ∧ ∀ base : Heap, K.In base → base.Ns mainGlobals mg → FnOk P w K mg base CX0 9 f fd ["script"] (fun vs H Q _ => lC K sp_law vs H Q) := by
  obtain ⟨fd, F⟩ := law_fn c
  have e := hfa.symm.trans (law_glo X G c)
  cases e
  have b := FunD.bindsA (ps := ["script"]) F fun _ _ _ _ _ _ us hl => match us, hl with | [_], _ => rfl
  exact ⟨fd, fun s v => b s [v] rfl, fun base _ _ => law_ok (top_of X G c) F⟩
theorem law_in {K : PySem.W.Frag} {H : Hp} {a : Addr} {ns : List Int} (hl : ns.length ≤ 63) (hO : Only H) (hS : SqL K H a (ns.map V.int)) : lC K sp_law [.ref a] H (fun v _ => v = .bl true) :=
  law_in0 hO hS ⟨ns, rfl, fun _ => rfl⟩
end K57
open PySem PySem.W PySem.Calls PyProof.Rows
set_option maxHeartbeats 0 in
theorem PySem.Challenge.cw_guanaco_k57_whole_heaps_lose_nothing_holds : PySem.Challenge.rw_guanaco_k57_whole_heaps_lose_nothing.Holds := by
  w_on; o_law
  refine HandSHeadRun.head_any (r := OpenLaw.row PySem.Challenge.rw_guanaco_k57_whole_heaps_lose_nothing) (q := K57.qv) (H := K57.hk) (ob := K57.ob) (M := 2000) (loose := K57.loose) (d := HandSHeadRun.topDef (OpenLaw.row PySem.Challenge.rw_guanaco_k57_whole_heaps_lose_nothing).prog 11) (kwd := []) K57.ob_eq
    (by kernel_rfl) (fun s => by kernel_rfl) K57.run (by kernel_rfl) (by kernel_rfl) (by kernel_rfl) (by rfl) (by first | assumption | decide +kernel) (by decide +kernel) ⟨rfl, rfl, rfl, rfl, rfl, by decide +kernel⟩ ?hw ?hc
  case hw => w_witness2
  case hc =>
    refine L2.walk_ofE (l := PySem.Challenge.rw_guanaco_k57_whole_heaps_lose_nothing) (n := 63) (k := 9) (x := "script") (CX := L2.CX0) rfl (by decide) (by kernel_rfl) ⟨rfl, by decide, by decide⟩ ?F (fun _ _ _ _ z => z)
    intro w mg fa h Y G hmg0
    obtain ⟨K, KX, c⟩ := Y
    have hmg : mg ("law" : PySem.Str) = some (.ref fa) := by
      have e : (HandSHeadRun.topDef (OpenLaw.row PySem.Challenge.rw_guanaco_k57_whole_heaps_lose_nothing).prog 11).name = ("law" : PySem.Str) := by kernel_rfl
      rw [← e]
      exact hmg0
    obtain ⟨fd, hb, hF⟩ := K57.facts (P := (PySem.Challenge.rw_guanaco_k57_whole_heaps_lose_nothing).prog) (w := w) KX G hmg c
    exact ⟨K, fd, _, KX, hb, fun H a ns hl hO hS => K57.law_in hl hO hS, hF⟩

#print axioms PySem.Challenge.cw_guanaco_k57_whole_heaps_lose_nothing_holds
